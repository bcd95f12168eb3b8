import PyProof.Rows.All
import Wide.All
import OpenK.AllK
import Wide.FinOn
import HandS.ForMost
import HandS.ForExc
import HandS.Lambda
import HandS.TupAny
import HandS.TupMul
import HandS.Deep
import HandS.IsInst
import HandS.CallSlots
import HandS.Wide
import HandS.ExcInit
import HandS.Zip
import HandS.SetFor
import HandS.Iter
import KE.GoesEnum
import HandS.Conv
import HandS.Style
import KE.GoesZip
import KE.GoesMore
import HandS.TryMany
import KE.KExcIs
import KE.KIsAll
import HandS.EndTab
import KE.KTupSum
import KE.DataFind
import HandS.AnyAll
import PyProof.Rows.GenSrcRange
import HandS.GenOver
import HandS.GenList
import HandS.Strs
import HandS.SetBool
import HandS.SortKw
import HandS.NoneIn
import HandS.CallLocal
import PySem.Challenge.RW_firstsafe_k53_whole_known_early
import HandS.EndOwn
import HandS.ExcIs
set_option Elab.async false
set_option linter.all false
set_option maxRecDepth 100000
/-! FsBase: values as data, the abstract store, the relation to the hand layer's heap. -/
namespace FS
open PySem PySem.Spec L2
open LamX (TabS Tabs ExtN CodeO)
/-- a value as data: a list that nobody changes any more is data too; a shared list or object is a number -/
inductive PV where
  | non | bl (b : Bool) | int (i : Int) | str (x : Str) | tup (xs : List PV) | tuz (xs : List PV) | lst (xs : List PV) | scr (ns : List Int) | ref (n : Nat) | raw (v : V)
/-- a name's place: no value, a value, a list that this frame alone holds, a caught error (its own dict at d) -/
inductive Slot where
  | none | val (p : PV) | own (xs : List PV) | exc (a d : Addr) (w : PV)
/-- a shared object -/
inductive SO where
  | lst (xs : List PV)
abbrev Env := List Slot
abbrev Stt := List SO
/-- how a piece of code ends -/
inductive Out (α : Type) where
  | ok (a : α) (e : Env) (s : Stt)
  | raise (c : Str) (w : PV) (e : Env) (s : Stt)
  | bad
abbrev Cd (α : Type) := Env → Stt → Out α
def ret {α : Type} (a : α) : Cd α := fun e s => .ok a e s
def Out.bind {α β : Type} (o : Out α) (k : α → Cd β) : Out β := match o with
  | .ok a e s => k a e s
  | .raise c w e s => .raise c w e s
  | .bad => .bad
def bnd {α β : Type} (d : Cd α) (k : α → Cd β) : Cd β := fun e s => (d e s).bind k
/-- a partial function's value -/
def lift {α : Type} (o : Option α) : Cd α := fun e s => match o with
  | some a => .ok a e s
  | none => .bad
structure Wd where
  m : List Addr
  fz : Addr → Prop
  H : Hp
  T : List (Addr × Str)
abbrev noH : Hp := fun _ => none
/-- a tuple that has no dict -/
def Td (K : PySem.W.Frag) (G : Wd) (a : Addr) (vs : List V) : Prop := (G.fz a ∧ ∃ o : Obj, o.dict = none ∧ G.H a = some (.frz o (.tup vs))) ∨ (SqT K noH a vs ∧ ∀ o, K.lookup a = some o → o.dict = none)
mutual
inductive Rep (K : PySem.W.Frag) (G : Wd) : PV → V → Prop
  | non : Rep K G .non .non
  | bl (b : Bool) : Rep K G (.bl b) (.bl b)
  | int (i : Int) : Rep K G (.int i) (.int i)
  | str (x : Str) : Rep K G (.str x) (.str x)
  | tup {a : Addr} {vs : List V} {xs : List PV} : Td K G a vs → RepL K G xs vs → Rep K G (.tup xs) (.ref a)
  | tuz {a : Addr} {vs : List V} {xs : List PV} : G.fz a → G.H a = some (.tup vs) → RepL K G xs vs → Rep K G (.tuz xs) (.ref a)
  | lst {a : Addr} {vs : List V} {xs : List PV} : G.fz a → G.H a = some (.lst vs) → RepL K G xs vs → Rep K G (.lst xs) (.ref a)
  | scr {a : Addr} {ns : List Int} : ((G.fz a ∧ SqL K G.H a (ns.map V.int)) ∨ SqL K noH a (ns.map V.int)) → Rep K G (.scr ns) (.ref a)
  | ref {a : Addr} {n : Nat} : G.m[n]? = some a → Rep K G (.ref n) (.ref a)
  | raw (v : V) : Rep K G (.raw v) v
inductive RepL (K : PySem.W.Frag) (G : Wd) : List PV → List V → Prop
  | nil : RepL K G [] []
  | cons {x : PV} {v : V} {xs : List PV} {vs : List V} : Rep K G x v → RepL K G xs vs → RepL K G (x :: xs) (v :: vs)
end
/-- later: what is frozen stands -/
structure Mon (G G' : Wd) : Prop where
  m : ∃ r, G'.m = G.m ++ r
  fz : ∀ a, G.fz a → G'.fz a ∧ G'.H a = G.H a
theorem Mon.refl (G : Wd) : Mon G G := ⟨⟨[], by simp⟩, fun a h => ⟨h, rfl⟩⟩
theorem Mon.trans {G1 G2 G3 : Wd} (a : Mon G1 G2) (b : Mon G2 G3) : Mon G1 G3 := by
  obtain ⟨r, e⟩ := a.m
  obtain ⟨r', e'⟩ := b.m
  refine ⟨⟨r ++ r', by rw [e', e, List.append_assoc]⟩, fun x h => ?_⟩
  obtain ⟨h1, e1⟩ := a.fz x h
  obtain ⟨h2, e2⟩ := b.fz x h1
  exact ⟨h2, e2.trans e1⟩
theorem Mon.at {G G' : Wd} (h : Mon G G') {n : Nat} {a : Addr} (e : G.m[n]? = some a) : G'.m[n]? = some a := by
  obtain ⟨r, q⟩ := h.m
  have hl : n < G.m.length := (List.getElem?_eq_some_iff.mp e).1
  rw [q, List.getElem?_append_left hl]
  exact e
theorem SqL.of_eq {K : PySem.W.Frag} {H H' : Hp} {a : Addr} {xs : List V} (e : H' a = H a) (h : SqL K H a xs) : SqL K H' a xs := by
  rcases h with (h | ⟨o, h⟩) | h
  · exact .inl (.inl (e.trans h))
  · exact .inl (.inr ⟨o, e.trans h⟩)
  · exact .inr h
mutual
theorem Rep.mono {K : PySem.W.Frag} {G G' : Wd} (M : Mon G G') : ∀ (p : PV) (v : V), Rep K G p v → Rep K G' p v
  | .non, _, h => by cases h; exact .non
  | .bl b, _, h => by cases h; exact .bl b
  | .int i, _, h => by cases h; exact .int i
  | .str x, _, h => by cases h; exact .str x
  | .tup xs, _, h => by
    cases h with
    | tup h r =>
      refine .tup ?_ (RepL.mono M xs _ r)
      rcases h with ⟨h1, o, h3, h2⟩ | h
      · obtain ⟨q1, q2⟩ := M.fz _ h1
        exact .inl ⟨q1, o, h3, q2.trans h2⟩
      · exact .inr h
  | .tuz xs, _, h => by
    cases h with
    | tuz h1 h2 r =>
      obtain ⟨q1, q2⟩ := M.fz _ h1
      exact .tuz q1 (q2.trans h2) (RepL.mono M xs _ r)
  | .lst xs, _, h => by
    cases h with
    | lst h1 h2 r =>
      obtain ⟨q1, q2⟩ := M.fz _ h1
      exact .lst q1 (q2.trans h2) (RepL.mono M xs _ r)
  | .scr ns, _, h => by
    cases h with
    | scr h =>
      rcases h with ⟨h1, h2⟩ | h
      · obtain ⟨q1, q2⟩ := M.fz _ h1
        exact .scr (.inl ⟨q1, SqL.of_eq q2 h2⟩)
      · exact .scr (.inr h)
  | .ref n, _, h => by
    cases h with
    | ref h => exact .ref (M.at h)
  | .raw v, _, h => by cases h; exact .raw v
theorem RepL.mono {K : PySem.W.Frag} {G G' : Wd} (M : Mon G G') : ∀ (ps : List PV) (vs : List V), RepL K G ps vs → RepL K G' ps vs
  | [], _, h => by cases h; exact .nil
  | x :: xs, _, h => by
    cases h with
    | cons h r => exact .cons (Rep.mono M x _ h) (RepL.mono M xs _ r)
end
section
variable {K : PySem.W.Frag} {G G' : Wd}
theorem Rep.mon {p : PV} {v : V} (h : Rep K G p v) (M : Mon G G') : Rep K G' p v := Rep.mono M p v h
theorem RepL.mon {p : List PV} {v : List V} (h : RepL K G p v) (M : Mon G G') : RepL K G' p v := RepL.mono M p v h
theorem RepL.length : ∀ {ps : List PV} {vs : List V}, RepL K G ps vs → ps.length = vs.length
  | _, _, .nil => rfl
  | _, _, .cons _ r => congrArg (· + 1) (RepL.length r)
theorem RepL.get : ∀ {ps : List PV} {vs : List V} {i : Nat} {p : PV}, RepL K G ps vs → ps[i]? = some p → ∃ v, vs[i]? = some v ∧ Rep K G p v
  | _, _, i, p, .nil, e => by simp at e
  | _, _, 0, p, .cons h _, e => by
    simp at e
    subst e
    exact ⟨_, rfl, h⟩
  | _, _, i + 1, p, .cons _ r, e => by
    obtain ⟨v, e', h⟩ := RepL.get (i := i) r (by simpa using e)
    exact ⟨v, by simpa using e', h⟩
theorem RepL.append : ∀ {ps qs : List PV} {vs ws : List V}, RepL K G ps vs → RepL K G qs ws → RepL K G (ps ++ qs) (vs ++ ws)
  | _, _, _, _, .nil, r => r
  | _, _, _, _, .cons h t, r => .cons h (t.append r)
theorem RepL.take : ∀ {ps : List PV} {vs : List V} (n : Nat), RepL K G ps vs → RepL K G (ps.take n) (vs.take n)
  | _, _, 0, _ => by rw [List.take_zero, List.take_zero]; exact .nil
  | _, _, n + 1, .nil => .nil
  | _, _, n + 1, .cons h r => .cons h (r.take n)
theorem RepL.drop : ∀ {ps : List PV} {vs : List V} (n : Nat), RepL K G ps vs → RepL K G (ps.drop n) (vs.drop n)
  | _, _, 0, h => h
  | _, _, n + 1, .nil => .nil
  | _, _, n + 1, .cons _ r => r.drop n
theorem RepL.set : ∀ {ps : List PV} {vs : List V} (n : Nat) {p : PV} {v : V}, RepL K G ps vs → Rep K G p v → RepL K G (ps.set n p) (vs.set n v)
  | _, _, _, _, _, .nil, _ => .nil
  | _, _, 0, _, _, .cons _ r, q => .cons q r
  | _, _, n + 1, _, _, .cons h r, q => .cons h (r.set n q)
theorem RepL.erase : ∀ {ps : List PV} {vs : List V} (n : Nat), RepL K G ps vs → RepL K G (ps.eraseIdx n) (vs.eraseIdx n)
  | _, _, _, .nil => .nil
  | _, _, 0, .cons _ r => r
  | _, _, n + 1, .cons h r => .cons h (r.erase n)
theorem RepL.snoc {ps : List PV} {vs : List V} {p : PV} {v : V} (h : RepL K G ps vs) (q : Rep K G p v) : RepL K G (ps ++ [p]) (vs ++ [v]) := h.append (.cons q .nil)
theorem RepL.rep : ∀ (n : Nat) {ps : List PV} {vs : List V}, RepL K G ps vs → RepL K G (List.replicate n ps).flatten (List.replicate n vs).flatten
  | 0, _, _, _ => .nil
  | n + 1, ps, vs, h => by
    rw [List.replicate_succ, List.replicate_succ, List.flatten_cons, List.flatten_cons]
    exact h.append (RepL.rep n h)
theorem RepL.ints : ∀ (ns : List Int), RepL K G (ns.map PV.int) (ns.map V.int)
  | [] => .nil
  | n :: ns => .cons (.int n) (RepL.ints ns)
end
/-! ### the shared store, the frame -/
def RepO (K : PySem.W.Frag) (G : Wd) : SO → Option HO → Prop
  | .lst xs, h => ∃ vs, h = some (.lst vs) ∧ RepL K G xs vs
structure RepS (K : PySem.W.Frag) (G : Wd) (S : Stt) : Prop where
  len : G.m.length = S.length
  nd : G.m.Nodup
  nf : ∀ a ∈ G.m, ¬ G.fz a
  ob : ∀ (i : Nat) (a : Addr) (o : SO), G.m[i]? = some a → S[i]? = some o → RepO K G o (G.H a)
def IsOwn (env : Env) (i : Nat) : Prop := ∃ xs, env[i]? = some (.own xs)
structure RepE (K : PySem.W.Frag) (G : Wd) (env : Env) (σ : St) : Prop where
  len : env.length = σ.length
  val : ∀ (i : Nat) (p : PV), env[i]? = some (.val p) → ∃ v, σ[i]? = some (some v) ∧ Rep K G p v
  own : ∀ (i : Nat) (xs : List PV), env[i]? = some (.own xs) → ∃ a vs, σ[i]? = some (some (.ref a)) ∧ G.H a = some (.lst vs) ∧ RepL K G xs vs ∧ ¬ G.fz a ∧ a ∉ G.m
  exc : ∀ (i : Nat) (a d : Addr) (w : PV), env[i]? = some (.exc a d w) → σ[i]? = some (some (.ref a)) ∧ G.fz d ∧ ∃ v, G.H d = some (.xd [(("what" : Str), v)]) ∧ Rep K G w v
  dis : ∀ (i j : Nat) (a : Addr), IsOwn env i → IsOwn env j → σ[i]? = some (some (.ref a)) → σ[j]? = some (some (.ref a)) → i = j
/-- no data stands there: nothing, or a code object's table -/
def Nu (H : Hp) (a : Addr) : Prop := H a = none ∨ ∃ ps, H a = some (.tbl ps)
/-- no table -/
def NT (o : HO) : Prop := ∀ ps, o ≠ .tbl ps
theorem Nu.no {H : Hp} {a : Addr} {o : HO} (h : Nu H a) (e : H a = some o) (n : NT o) : False := by
  rcases h with h | ⟨ps, h⟩
  · rw [h] at e; cases e
  · rw [h] at e; exact n ps (Option.some.inj e).symm
theorem nt_lst {vs : List V} : NT (.lst vs) := fun _ e => by cases e
theorem nt_frz {o : Obj} {u : HO} : NT (.frz o u) := fun _ e => by cases e
theorem tab_poke {H : Hp} {a : Addr} {vs vs' : List V} (e : H a = some (.lst vs)) {P : Addr} {q : Str} (t : TabS H P q) : TabS (upd H a (.lst vs')) P q := by
  obtain ⟨ps, h1, h2, h3⟩ := t
  refine ⟨ps, ?_, h2, fun pos cv h => ?_⟩
  · rw [upd_ne (fun z => by rw [z, e] at h1; cases h1)]
    exact h1
  · obtain ⟨c, e1, e2⟩ := h3 pos cv h
    refine ⟨c, e1, ?_⟩
    rw [upd_ne (fun z => by rw [z, e] at e2; cases e2)]
    exact e2
theorem nu_poke {H : Hp} {a c : Addr} {vs : List V} (h : Nu (upd H a (.lst vs)) c) : Nu H c := by
  have hne : c ≠ a := fun z => by subst z; exact h.no upd_same nt_lst
  rcases h with h | ⟨ps, h⟩
  · exact .inl (by rw [upd_ne hne] at h; exact h)
  · exact .inr ⟨ps, by rw [upd_ne hne] at h; exact h⟩
theorem tabs_poke {H : Hp} {a : Addr} {vs vs' : List V} (e : H a = some (.lst vs)) {T : List (Addr × Str)} (t : Tabs T H) : Tabs T (upd H a (.lst vs')) := fun p hp => tab_poke e (t p hp)
/-- what a call does to its caller's world -/
structure Ent (G0 G : Wd) : Prop where
  pre : ∃ r, G.m = G0.m ++ r
  new : ∀ a ∈ G.m, a ∈ G0.m ∨ Nu G0.H a
  fz : ∀ a, G0.fz a → G.fz a
  fzn : ∀ a, G.fz a → G0.fz a ∨ Nu G0.H a
  keep : ∀ a o, G0.H a = some o → NT o → a ∉ G0.m → G.H a = some o
  there : ∀ a, Nu G.H a → Nu G0.H a
  T : G.T = G0.T
  tb : Tabs G0.T G0.H → Tabs G0.T G.H
theorem Ent.refl (G : Wd) : Ent G G := ⟨⟨[], by simp⟩, fun _ h => .inl h, fun _ h => h, fun _ h => .inl h, fun _ _ h _ _ => h, fun _ h => h, rfl, fun h => h⟩
theorem Ent.trans {G0 G1 G2 : Wd} (a : Ent G0 G1) (b : Ent G1 G2) : Ent G0 G2 := by
  obtain ⟨r, e⟩ := a.pre
  obtain ⟨r', e'⟩ := b.pre
  refine ⟨⟨r ++ r', by rw [e', e, List.append_assoc]⟩, fun x h => ?_, fun x h => b.fz x (a.fz x h), fun x h => ?_, fun x o h hn hm => ?_, fun x h => a.there x (b.there x h), b.T.trans a.T, fun h => by
    have q := a.tb h
    rw [← a.T] at q ⊢
    exact b.tb q⟩
  · rcases b.new x h with h | h
    · exact a.new x h
    · exact .inr (a.there x h)
  · rcases b.fzn x h with h | h
    · exact a.fzn x h
    · exact .inr (a.there x h)
  · have h1 := a.keep x o h hn hm
    refine b.keep x o h1 hn fun h2 => ?_
    rcases a.new x h2 with h3 | h3
    · exact hm h3
    · exact h3.no h hn
/-- only new things -/
structure Ext (G G' : Wd) : Prop where
  T : G'.T = G.T
  m : G'.m = G.m
  fz : ∀ a, G.fz a → G'.fz a
  fzn : ∀ a, G'.fz a → G.fz a ∨ G.H a = none
  keep : ∀ a o, G.H a = some o → G'.H a = some o
theorem Ext.refl (G : Wd) : Ext G G := ⟨rfl, rfl, fun _ h => h, fun _ h => .inl h, fun _ _ h => h⟩
theorem Ext.there {G G' : Wd} (x : Ext G G') {a : Addr} (h : G'.H a = none) : G.H a = none := by
  cases e : G.H a with
  | none => rfl
  | some o => rw [x.keep a o e] at h; cases h
theorem Ext.trans {G G1 G2 : Wd} (a : Ext G G1) (b : Ext G1 G2) : Ext G G2 := by
  refine ⟨b.T.trans a.T, b.m.trans a.m, fun x h => b.fz x (a.fz x h), fun x h => ?_, fun x o h => b.keep x o (a.keep x o h)⟩
  rcases b.fzn x h with h | h
  · exact a.fzn x h
  · exact .inr (a.there h)
theorem Ext.nu {G G' : Wd} (x : Ext G G') {a : Addr} (h : Nu G'.H a) : Nu G.H a := by
  rcases h with h | ⟨ps, h⟩
  · exact .inl (x.there h)
  · cases e : G.H a with
    | none => exact .inl e
    | some o => rw [x.keep a o e] at h; exact .inr ⟨ps, by rw [e]; exact h⟩
theorem Ext.ent {G G' : Wd} (x : Ext G G') : Ent G G' :=
  ⟨⟨[], by rw [x.m]; simp⟩, fun a h => .inl (by rw [← x.m]; exact h), x.fz, fun a h => (x.fzn a h).imp id .inl, fun a o h _ _ => x.keep a o h, fun a h => x.nu h, x.T, fun h p hp => (h p hp).ext x.keep⟩
/-- what is frozen is there, and no table -/
def Sure (G : Wd) : Prop := ∀ a, G.fz a → ∃ o, G.H a = some o ∧ NT o
theorem Ext.mon {G G' : Wd} (x : Ext G G') (s : Sure G) : Mon G G' := ⟨⟨[], by rw [x.m]; simp⟩, fun a h => ⟨x.fz a h, by
  obtain ⟨o, e, _⟩ := s a h
  rw [e, x.keep a o e]⟩⟩
/-- a new thing, frozen -/
abbrev Wd.frozen (G : Wd) (a : Addr) (o : HO) : Wd := ⟨G.m, fun b => G.fz b ∨ b = a, upd G.H a o, G.T⟩
/-- a new thing, not frozen -/
abbrev Wd.fresh (G : Wd) (a : Addr) (o : HO) : Wd := ⟨G.m, G.fz, upd G.H a o, G.T⟩
theorem keepU {H : Hp} {a : Addr} {o : HO} (hn : H a = none) : ∀ b u, H b = some u → upd H a o b = some u := fun b u e => by
  rw [upd_ne (ne_of_none e hn)]
  exact e
theorem Ext.frozen {G : Wd} {a : Addr} {o : HO} (hn : G.H a = none) : Ext G (G.frozen a o) :=
  ⟨rfl, rfl, fun _ h => .inl h, fun b h => h.elim .inl fun e => .inr (by rw [e]; exact hn), keepU hn⟩
theorem Ext.fresh {G : Wd} {a : Addr} {o : HO} (hn : G.H a = none) : Ext G (G.fresh a o) :=
  ⟨rfl, rfl, fun _ h => h, fun b h => .inl h, keepU hn⟩
/-- the frame's state: G0 the world at the def's entry -/
structure At (K : PySem.W.Frag) (G0 G : Wd) (S : Stt) (env : Env) (σ : St) : Prop where
  st : RepS K G S
  en : RepE K G env σ
  ent : Ent G0 G
  mine : ∀ (i : Nat) (a : Addr), IsOwn env i → σ[i]? = some (some (.ref a)) → Nu G0.H a
  sure : Sure G
theorem RepO.mono {K : PySem.W.Frag} {G G' : Wd} (M : Mon G G') {o : SO} {h : Option HO} (r : RepO K G o h) : RepO K G' o h := by
  cases o with
  | lst xs => obtain ⟨vs, e, r⟩ := r; exact ⟨vs, e, r.mon M⟩
theorem RepO.some {K : PySem.W.Frag} {G : Wd} {o : SO} {h : Option HO} (r : RepO K G o h) : ∃ u, h = some u := by
  cases o with
  | lst xs => obtain ⟨vs, e, r⟩ := r; exact ⟨_, e⟩
section
variable {K : PySem.W.Frag} {G0 G G' : Wd} {S S' : Stt} {env : Env} {σ : St}
theorem RepS.there (s : RepS K G S) {a : Addr} (h : a ∈ G.m) : ∃ u, G.H a = some u := by
  obtain ⟨i, hi⟩ := List.getElem?_of_mem h
  have hl : i < S.length := by rw [← s.len]; exact (List.getElem?_eq_some_iff.mp hi).1
  exact (s.ob i a S[i] hi (by simp [hl])).some
theorem RepS.ext (s : RepS K G S) (x : Ext G G') (M : Mon G G') : RepS K G' S := by
  refine ⟨by rw [x.m]; exact s.len, by rw [x.m]; exact s.nd, fun a h h' => ?_, fun i a o h1 h2 => ?_⟩
  · rw [x.m] at h
    rcases x.fzn a h' with q | q
    · exact s.nf a h q
    · obtain ⟨u, e⟩ := s.there h
      rw [q] at e; cases e
  · rw [x.m] at h1
    have q := s.ob i a o h1 h2
    obtain ⟨u, e⟩ := q.some
    rw [x.keep a u e, ← e]
    exact q.mono M
/-- the frame over a change that keeps the frozen and the frame's own -/
theorem RepE.over (r : RepE K G env σ) (M : Mon G G') (hk : ∀ (i : Nat) (a : Addr), IsOwn env i → σ[i]? = some (some (.ref a)) → G'.H a = G.H a ∧ ¬ G'.fz a ∧ a ∉ G'.m) : RepE K G' env σ := by
  refine ⟨r.len, fun i p e => ?_, fun i xs e => ?_, fun i a d w e => ?_, r.dis⟩
  · obtain ⟨v, e1, h⟩ := r.val i p e
    exact ⟨v, e1, h.mon M⟩
  · obtain ⟨a, vs, e1, e2, h, _, _⟩ := r.own i xs e
    obtain ⟨q1, q2, q3⟩ := hk i a ⟨xs, e⟩ e1
    exact ⟨a, vs, e1, q1.trans e2, h.mon M, q2, q3⟩
  · obtain ⟨e1, h1, v, e2, h2⟩ := r.exc i a d w e
    obtain ⟨q1, q2⟩ := M.fz d h1
    exact ⟨e1, q1, v, q2.trans e2, h2.mon M⟩
/-- .. over a call -/
theorem At.call (A : At K G0 G S env σ) (E : Ent G G') (M : Mon G G') (s : RepS K G' S') (su : Sure G') : At K G0 G' S' env σ := by
  refine ⟨s, A.en.over M fun i a ho e => ?_, A.ent.trans E, A.mine, su⟩
  obtain ⟨xs, ho⟩ := ho
  obtain ⟨b, vs, e1, e2, _, n1, n2⟩ := A.en.own i xs ho
  rw [e1] at e
  cases e
  refine ⟨by rw [e2]; exact E.keep _ _ e2 nt_lst n2, fun h => ?_, fun h => ?_⟩
  · rcases E.fzn _ h with h | h
    · exact n1 h
    · exact h.no e2 nt_lst
  · rcases E.new _ h with h | h
    · exact n2 h
    · exact h.no e2 nt_lst
theorem Ext.sure (x : Ext G G') (s : Sure G) (h : ∀ a, G'.fz a → G.fz a ∨ ∃ o, G'.H a = some o ∧ NT o) : Sure G' := fun a q => by
  rcases h a q with h | h
  · obtain ⟨o, e, n⟩ := s a h
    exact ⟨o, x.keep a o e, n⟩
  · exact h
/-- .. over new things -/
theorem At.ext (A : At K G0 G S env σ) (x : Ext G G') (su : Sure G') : At K G0 G' S env σ := A.call x.ent (x.mon A.sure) (A.st.ext x (x.mon A.sure)) su
theorem At.frozen {a : Addr} {o : HO} (A : At K G0 G S env σ) (hn : G.H a = none) (nt : NT o := by intro _ e; cases e) : At K G0 (G.frozen a o) S env σ :=
  A.ext (Ext.frozen hn) ((Ext.frozen hn).sure A.sure fun b h => h.elim .inl fun e => .inr ⟨o, by rw [e]; exact upd_same, nt⟩)
theorem At.fresh {a : Addr} {o : HO} (A : At K G0 G S env σ) (hn : G.H a = none) : At K G0 (G.fresh a o) S env σ :=
  A.ext (Ext.fresh hn) ((Ext.fresh hn).sure A.sure fun b h => .inl h)
end
/-! ### readings -/
structure Zx where
  K : PySem.W.Frag
  mg : Str → Option Value
  G0 : Wd
  W : WX
/-- what is wanted of a raising end -/
def PRaise (z : Zx) (G : Wd) (c : Str) (w : PV) (env : Env) (S : Stt) (σ : St) : Prop :=
  ∀ (G' : Wd) (cls : Value) (d : Addr) (v : V), Mon G G' → At z.K z.G0 G' S env σ → z.mg c = some cls → Nu z.G0.H d → G'.H d = some (.xd [(("what" : Str), v)]) → Rep z.K G' w v → z.W cls (some d) σ G'.H
/-- behind an expression -/
def Post (z : Zx) (G : Wd) (σ : St) (Q : VK) : Out PV → Prop
  | .ok p env S => ∀ (v : V) (G' : Wd), Mon G G' → At z.K z.G0 G' S env σ → Rep z.K G' p v → Q v G'.H
  | .raise c w env S => ∀ σ', PRaise z G c w env S σ'
  | .bad => False
/-- .. a test -/
def PostT (z : Zx) (G : Wd) (σ : St) (Q : Bool → Hp → Prop) : Out Bool → Prop
  | .ok b env S => ∀ (G' : Wd), Mon G G' → At z.K z.G0 G' S env σ → Q b G'.H
  | .raise c w env S => ∀ σ', PRaise z G c w env S σ'
  | .bad => False
/-- .. arguments -/
def PostA (z : Zx) (G : Wd) (σ : St) (Q : List V → Hp → Prop) : Out (List PV) → Prop
  | .ok ps env S => ∀ (vs : List V) (G' : Wd), Mon G G' → At z.K z.G0 G' S env σ → RepL z.K G' ps vs → Q vs G'.H
  | .raise c w env S => ∀ σ', PRaise z G c w env S σ'
  | .bad => False
/-- .. a list that nobody else holds -/
def PostF (z : Zx) (G : Wd) (σ : St) (Q : VK) : Out (List PV) → Prop
  | .ok xs env S => ∀ (a : Addr) (vs : List V) (G' : Wd), Mon G G' → At z.K z.G0 G' S env σ → RepL z.K G' xs vs → G'.H a = some (.lst vs) → ¬ G'.fz a → a ∉ G'.m → Nu z.G0.H a →
      (∀ i : Nat, IsOwn env i → σ[i]? ≠ some (some (.ref a))) → Q (.ref a) G'.H
  | .raise c w env S => ∀ σ', PRaise z G c w env S σ'
  | .bad => False
/-- a statement's end -/
inductive Flw where
  | next | ret (p : PV) | brk | cont
def PostS (z : Zx) (G : Wd) (D : Ends) : Out Flw → Prop
  | .ok .next env S => ∀ (σ' : St) (G' : Wd), Mon G G' → At z.K z.G0 G' S env σ' → D.nx σ' G'.H
  | .ok .brk env S => ∀ (σ' : St) (G' : Wd), Mon G G' → At z.K z.G0 G' S env σ' → D.bk σ' G'.H
  | .ok .cont env S => ∀ (σ' : St) (G' : Wd), Mon G G' → At z.K z.G0 G' S env σ' → D.ct σ' G'.H
  | .ok (.ret p) env S => ∀ (v : V) (σ' : St) (G' : Wd), Mon G G' → At z.K z.G0 G' S env σ' → Rep z.K G' p v → D.rt v G'.H
  | .raise c w env S => ∀ σ', PRaise z G c w env S σ'
  | .bad => False
def RE (z : Zx) (d : Cd PV) : TE := fun σ H Q => ∃ G env S, G.H = H ∧ At z.K z.G0 G S env σ ∧ Post z G σ Q (d env S)
def RT (z : Zx) (d : Cd Bool) : TT := fun σ H Q => ∃ G env S, G.H = H ∧ At z.K z.G0 G S env σ ∧ PostT z G σ Q (d env S)
def RA (z : Zx) (d : Cd (List PV)) : TA := fun σ H Q => ∃ G env S, G.H = H ∧ At z.K z.G0 G S env σ ∧ PostA z G σ Q (d env S)
def RF (z : Zx) (d : Cd (List PV)) : TE := fun σ H Q => ∃ G env S, G.H = H ∧ At z.K z.G0 G S env σ ∧ PostF z G σ Q (d env S)
def RS (z : Zx) (d : Cd Flw) : TS := fun D σ H => ∃ G env S, G.H = H ∧ At z.K z.G0 G S env σ ∧ PostS z G D (d env S)
theorem PRaise.later {z : Zx} {G G1 : Wd} {c : Str} {w : PV} {env : Env} {S : Stt} {σ : St} (h : PRaise z G c w env S σ) (M : Mon G G1) : PRaise z G1 c w env S σ :=
  fun G' cls d v m a e1 e0 e2 r => h G' cls d v (M.trans m) a e1 e0 e2 r
theorem Post.later {z : Zx} {G G1 : Wd} {σ : St} {Q : VK} {o : Out PV} (h : Post z G σ Q o) (M : Mon G G1) : Post z G1 σ Q o := by
  cases o with
  | ok p env S => exact fun v G' m a r => h v G' (M.trans m) a r
  | raise c w env S => exact fun σ' => (h σ').later M
  | bad => exact h
theorem PostT.later {z : Zx} {G G1 : Wd} {σ : St} {Q : Bool → Hp → Prop} {o : Out Bool} (h : PostT z G σ Q o) (M : Mon G G1) : PostT z G1 σ Q o := by
  cases o with
  | ok p env S => exact fun G' m a => h G' (M.trans m) a
  | raise c w env S => exact fun σ' => (h σ').later M
  | bad => exact h
theorem PostA.later {z : Zx} {G G1 : Wd} {σ : St} {Q : List V → Hp → Prop} {o : Out (List PV)} (h : PostA z G σ Q o) (M : Mon G G1) : PostA z G1 σ Q o := by
  cases o with
  | ok p env S => exact fun v G' m a r => h v G' (M.trans m) a r
  | raise c w env S => exact fun σ' => (h σ').later M
  | bad => exact h
theorem PostF.later {z : Zx} {G G1 : Wd} {σ : St} {Q : VK} {o : Out (List PV)} (h : PostF z G σ Q o) (M : Mon G G1) : PostF z G1 σ Q o := by
  cases o with
  | ok p env S => exact fun a vs G' m => h a vs G' (M.trans m)
  | raise c w env S => exact fun σ' => (h σ').later M
  | bad => exact h
theorem PostS.later {z : Zx} {G G1 : Wd} {D : Ends} {o : Out Flw} (h : PostS z G D o) (M : Mon G G1) : PostS z G1 D o := by
  cases o with
  | ok f env S =>
    cases f with
    | next => exact fun σ' G' m => h σ' G' (M.trans m)
    | brk => exact fun σ' G' m => h σ' G' (M.trans m)
    | cont => exact fun σ' G' m => h σ' G' (M.trans m)
    | ret p => exact fun v σ' G' m => h v σ' G' (M.trans m)
  | raise c w env S => exact fun σ' => (h σ').later M
  | bad => exact h
end FS
set_option Elab.async false
set_option linter.all false
set_option maxRecDepth 100000
/-! FsTupN: new tuples, known to the object: they have no dict. -/
namespace L2
open PySem PySem.Spec PyProof.Rows HT
theorem objN {P : Program} {w : World} {H : Hp} {h : Heap} {a : Addr} {xs : List V} {its : List Value} {o : Obj} (hz : xs.length ≤ sizeLine) (r : Vals xs its) (hg : h.get? a = some o) (hc : o.cls = .type "tuple") (hd : ∃ n, o.data = .seq its.toArray n) :
    ObjOk P w H h a (.frz o (.tup xs)) := ⟨hg, hz, its, r, o, hg, hc, hd⟩
section
variable {X : Cx} {e : Expr} {es : List Expr} {te : TE} {t : TA} {pos : Pos}
def tTupN (t : TA) : TE := fun σ H Q => t σ H fun xs H1 => xs.length ≤ sizeLine ∧ ∀ p o, H1 p = none → o.dict = none → Q (.ref p) (upd H1 p (.frz o (.tup xs)))
theorem pe_tupN {x1} (h : PA X es t) : PE X (.Tuple es x1 pos) (tTupN t) := by
  refine ⟨fun pins s σ H Q I hq => ?_⟩
  refine wpAny_Tuple_spliced (thn (h.run pos pins s σ H _ I hq) fun us s1 ⟨xs, H1, I1, r, z, q⟩ => ⟨by rw [← r.length]; exact z, ?_⟩)
  have hf : H1 s1.heap.objs.size = none := I1.hok.fresh (Nat.le_refl _)
  refine ⟨.ref s1.heap.objs.size, upd H1 s1.heap.objs.size (.frz _ (.tup xs)), I1.laid (t' := s1.toks) (fun b u e => Heap.get?_push_of_some _ e) (Nat.le_refl _) (objN (its := us) z r (Heap.get?_push_size _ rfl) rfl ⟨_, rfl⟩), rfl, q _ _ hf rfl⟩
/-- t + u -/
def rCatN (K : PySem.W.Frag) : R2 := fun x y H Q => ∃ a b xs ys, x = .ref a ∧ y = .ref b ∧ SqT K H a xs ∧ SqT K H b ys ∧ xs.length + ys.length ≤ sizeLine ∧
  (xs = [] → Q (.ref b) H) ∧ (xs ≠ [] → ys = [] → Q (.ref a) H) ∧ (xs ≠ [] → ys ≠ [] → ∀ p o, H p = none → o.dict = none → Q (.ref p) (upd H p (.frz o (.tup (xs ++ ys)))))
theorem op_catN : OpR X (binaryOp .Add) (rCatN X.K) := by
  intro pins s σ H x y v u Q I rx ry h
  obtain ⟨a, b, xs, ys, rfl, rfl, ha, hb, hz, q0, q1, q2⟩ := h
  cases rx
  cases ry
  obtain ⟨its, r1, p1, _⟩ := I.tuple ha
  obtain ⟨its2, r2, p2, _⟩ := I.tuple hb
  by_cases hx : xs = []
  · subst hx
    cases r1
    exact cat_tup0 p1 p2 ⟨.ref b, H, I, rfl, q0 rfl⟩
  · refine HT.cat_tup p1 p2 (fun z => hx (r1.nil_iff.mp z)) (fun z => ⟨.ref a, H, I, rfl, q1 hx (r2.nil_iff.mp z)⟩) (fun z => ?_) (by rw [← r1.length, ← r2.length]; exact hz)
    exact ⟨.ref s.heap.objs.size, _, I.laid (t' := s.toks) (o := .frz _ (.tup (xs ++ ys))) (fun b ob q => Heap.get?_push_of_some _ q) (Nat.le_refl _) (objN (by rw [List.length_append]; exact hz) (r1.append r2) (Heap.get?_push_size _ rfl) rfl ⟨_, rfl⟩), rfl,
      q2 hx (fun w => z (r2.nil_iff.mpr w)) _ _ (I.hok.fresh (Nat.le_refl _)) rfl⟩
/-- t[lo:hi]: the whole of it is t itself -/
def rSlN (K : PySem.W.Frag) : V → Option Int → Option Int → Hp → VK → Prop := fun x lo hi H Q => ∃ a xs, x = .ref a ∧ SqT K H a xs ∧
  (HT.sIx xs.length 0 lo = 0 ∧ HT.sIx xs.length xs.length hi = xs.length → Q (.ref a) H) ∧ (¬ (HT.sIx xs.length 0 lo = 0 ∧ HT.sIx xs.length xs.length hi = xs.length) → ∀ p o, H p = none → o.dict = none → Q (.ref p) (upd H p (.frz o (.tup (cutV xs lo hi)))))
theorem sl_tupN : SlR X (rSlN X.K) := by
  intro pins s σ H x v vl vu lo hi sl Q I rx hs pl pu h
  obtain ⟨a, xs, rfl, hx, q1, q2⟩ := h
  cases rx
  obtain ⟨its, r, ht, hz⟩ := I.tuple hx
  have hlen : its.toArray.size = xs.length := by rw [List.size_toArray]; exact r.length.symm
  by_cases hw : HT.sIx xs.length 0 lo = 0 ∧ HT.sIx xs.length xs.length hi = xs.length
  · refine ⟨"tuple", _, PyProof.Rows.slot_tuple_getitem.lookup, ht.typeIs, ?_⟩
    exact getItem_tuple_whole ht hs pl pu (by rw [hlen]; exact hw) ⟨.ref a, H, I, rfl, q1 hw⟩
  · refine ⟨"tuple", _, PyProof.Rows.slot_tuple_getitem.lookup, ht.typeIs, ?_⟩
    refine HT.getItem_tuple_cut ht hs pl pu (by rw [hlen]; exact hw) ?_ (by rw [hlen]; exact hz)
    rw [hlen]
    exact ⟨.ref s.heap.objs.size, _, I.laid (t' := s.toks) (o := .frz _ (.tup (cutV xs lo hi))) (fun b ob q => Heap.get?_push_of_some _ q) (Nat.le_refl _)
      (objN (Nat.le_trans (cutV_length xs lo hi) hz) ((r.drop (HT.sIx xs.length 0 lo)).take (HT.sIx xs.length xs.length hi - HT.sIx xs.length 0 lo)) (Heap.get?_push_size _ rfl) rfl ⟨_, rfl⟩), rfl, q2 hw _ _ (I.hok.fresh (Nat.le_refl _)) rfl⟩
theorem call_tuple_ofN : CallR X (.type "tuple") (fun xs H Q => ∃ p ys, xs = [.ref p] ∧ ((SqL X.K H p ys ∧ ∀ l o, H l = none → o.dict = none → Q (.ref l) (upd H l (.frz o (.tup ys)))) ∨ (SqT X.K H p ys ∧ Q (.ref p) H))) := by
  intro pins s σ H xs us Q I r h
  obtain ⟨p, ys, rfl, h⟩ := h
  obtain ⟨u, rfl, rx⟩ := vals1 r
  cases rx
  rcases h with ⟨hq, q⟩ | ⟨hq, q⟩
  · obtain ⟨its, r', pl, hz⟩ := I.list hq
    have hlen := r'.length
    refine call_tuple_list pl.isList (fun h' kp => ?_) (by simp only [List.size_toArray] <;> omega)
    have I1 : Inv X pins σ H { s with heap := h' } := I.kept (t' := s.toks) kp
    have I2 : Inv X pins σ (upd H h'.objs.size (.frz { cls := .type "tuple", data := .seq its.toArray } (.tup ys))) { s with heap := h'.push { cls := .type "tuple", data := .seq its.toArray } } :=
      I1.laid (t' := s.toks) (fun b o e => Heap.get?_push_of_some _ e) (Nat.le_refl _) (objN hz r' (Heap.get?_push_size _ rfl) rfl ⟨_, rfl⟩)
    exact ⟨.ref h'.objs.size, _, I2, rfl, q _ _ (I1.hok.fresh (Nat.le_refl _)) rfl⟩
  · obtain ⟨its, r', pl, hz⟩ := I.tuple hq
    exact call_tuple_same pl ⟨.ref p, H, I, rfl, q⟩
end
end L2
set_option Elab.async false
set_option linter.all false
set_option maxRecDepth 100000
/-! FsExpr: expressions. -/
namespace FS
open PySem PySem.Spec L2
/-! ### how ends compose -/
structure Lw (z : Zx) {β : Type} (F : Wd → Out β → Prop) : Prop where
  later : ∀ G G1 o, F G o → Mon G G1 → F G1 o
  rais : ∀ G c w e S, F G (.raise c w e S) → ∀ σ', PRaise z G c w e S σ'
  bad : ∀ G, F G .bad → False
section
variable {z : Zx} {σ : St}
theorem lwE {Q : VK} : Lw z (fun G o => Post z G σ Q o) := ⟨fun _ _ _ h m => h.later m, fun _ _ _ _ _ h => h, fun _ h => h⟩
theorem lwT {Q : Bool → Hp → Prop} : Lw z (fun G o => PostT z G σ Q o) := ⟨fun _ _ _ h m => h.later m, fun _ _ _ _ _ h => h, fun _ h => h⟩
theorem lwA {Q : List V → Hp → Prop} : Lw z (fun G o => PostA z G σ Q o) := ⟨fun _ _ _ h m => h.later m, fun _ _ _ _ _ h => h, fun _ h => h⟩
theorem lwF {Q : VK} : Lw z (fun G o => PostF z G σ Q o) := ⟨fun _ _ _ h m => h.later m, fun _ _ _ _ _ h => h, fun _ h => h⟩
theorem lwS {D : Ends} : Lw z (fun G o => PostS z G D o) := ⟨fun _ _ _ h m => h.later m, fun _ _ _ _ _ h => h, fun _ h => h⟩
section
variable {β : Type} {F : Wd → Out β → Prop} {G : Wd} {env : Env} {S : Stt}
theorem toE (L : Lw z F) {d : Cd PV} {k : PV → Cd β} {R : VK} (A : At z.K z.G0 G S env σ) (P : F G (bnd d k env S))
    (h : ∀ p env1 S1 v G1, Mon G G1 → At z.K z.G0 G1 S1 env1 σ → Rep z.K G1 p v → F G1 (k p env1 S1) → R v G1.H) : RE z d σ G.H R := by
  refine ⟨G, env, S, rfl, A, ?_⟩
  unfold bnd at P
  cases e : d env S with
  | ok p env1 S1 =>
    rw [e] at P
    exact fun v G1 m a r => h p env1 S1 v G1 m a r (L.later _ _ _ P m)
  | raise c w env1 S1 =>
    rw [e] at P
    exact L.rais _ _ _ _ _ P
  | bad =>
    rw [e] at P
    exact (L.bad _ P).elim
theorem toT (L : Lw z F) {d : Cd Bool} {k : Bool → Cd β} {R : Bool → Hp → Prop} (A : At z.K z.G0 G S env σ) (P : F G (bnd d k env S))
    (h : ∀ b env1 S1 G1, Mon G G1 → At z.K z.G0 G1 S1 env1 σ → F G1 (k b env1 S1) → R b G1.H) : RT z d σ G.H R := by
  refine ⟨G, env, S, rfl, A, ?_⟩
  unfold bnd at P
  cases e : d env S with
  | ok p env1 S1 =>
    rw [e] at P
    exact fun G1 m a => h p env1 S1 G1 m a (L.later _ _ _ P m)
  | raise c w env1 S1 =>
    rw [e] at P
    exact L.rais _ _ _ _ _ P
  | bad =>
    rw [e] at P
    exact (L.bad _ P).elim
theorem toA (L : Lw z F) {d : Cd (List PV)} {k : List PV → Cd β} {R : List V → Hp → Prop} (A : At z.K z.G0 G S env σ) (P : F G (bnd d k env S))
    (h : ∀ p env1 S1 v G1, Mon G G1 → At z.K z.G0 G1 S1 env1 σ → RepL z.K G1 p v → F G1 (k p env1 S1) → R v G1.H) : RA z d σ G.H R := by
  refine ⟨G, env, S, rfl, A, ?_⟩
  unfold bnd at P
  cases e : d env S with
  | ok p env1 S1 =>
    rw [e] at P
    exact fun v G1 m a r => h p env1 S1 v G1 m a r (L.later _ _ _ P m)
  | raise c w env1 S1 =>
    rw [e] at P
    exact L.rais _ _ _ _ _ P
  | bad =>
    rw [e] at P
    exact (L.bad _ P).elim
/-- a list that nobody else holds -/
structure Alone (z : Zx) (G : Wd) (env : Env) (σ : St) (a : Addr) (vs : List V) : Prop where
  at_ : G.H a = some (.lst vs)
  nf : ¬ G.fz a
  nm : a ∉ G.m
  n0 : Nu z.G0.H a
  no : ∀ i : Nat, IsOwn env i → σ[i]? ≠ some (some (.ref a))
theorem toF (L : Lw z F) {d : Cd (List PV)} {k : List PV → Cd β} {R : VK} (A : At z.K z.G0 G S env σ) (P : F G (bnd d k env S))
    (h : ∀ p env1 S1 a vs G1, Mon G G1 → At z.K z.G0 G1 S1 env1 σ → RepL z.K G1 p vs → Alone z G1 env1 σ a vs → F G1 (k p env1 S1) → R (.ref a) G1.H) : RF z d σ G.H R := by
  refine ⟨G, env, S, rfl, A, ?_⟩
  unfold bnd at P
  cases e : d env S with
  | ok p env1 S1 =>
    rw [e] at P
    exact fun a vs G1 m A1 r h1 h2 h3 h4 h5 => h p env1 S1 a vs G1 m A1 r ⟨h1, h2, h3, h4, h5⟩ (L.later _ _ _ P m)
  | raise c w env1 S1 =>
    rw [e] at P
    exact L.rais _ _ _ _ _ P
  | bad =>
    rw [e] at P
    exact (L.bad _ P).elim
end
/-! ### new things -/
section
variable {G : Wd} {env : Env} {S : Stt} {a : Addr} {vs : List V}
theorem At.alone (A : At z.K z.G0 G S env σ) (hn : G.H a = none) : Alone z (G.fresh a (.lst vs)) env σ a vs := by
  refine ⟨upd_same, fun h => ?_, fun h => ?_, A.ent.there a (.inl hn), fun i ho e => ?_⟩
  · obtain ⟨o, q, _⟩ := A.sure a h
    rw [hn] at q; cases q
  · obtain ⟨o, q⟩ := A.st.there h
    rw [hn] at q; cases q
  · obtain ⟨xs, ho⟩ := ho
    obtain ⟨b, ws, e1, e2, _⟩ := A.en.own i xs ho
    rw [e] at e1; cases e1
    rw [hn] at e2; cases e2
/-- a list is frozen -/
abbrev Wd.freeze (G : Wd) (a : Addr) : Wd := ⟨G.m, fun b => G.fz b ∨ b = a, G.H, G.T⟩
theorem mon_freeze : Mon G (G.freeze a) := ⟨⟨[], by simp⟩, fun b h => ⟨.inl h, rfl⟩⟩
theorem At.freeze (A : At z.K z.G0 G S env σ) (q : Alone z G env σ a vs) : At z.K z.G0 (G.freeze a) S env σ := by
  have M : Mon G (G.freeze a) := mon_freeze
  refine ⟨⟨A.st.len, A.st.nd, fun b hb h => ?_, fun i b o h1 h2 => (A.st.ob i b o h1 h2).mono M⟩, A.en.over M fun i b ho e => ⟨rfl, fun h => ?_, ?_⟩, ?_, A.mine, fun b h => ?_⟩
  · rcases h with h | h
    · exact A.st.nf b hb h
    · rw [h] at hb; exact q.nm hb
  · rcases h with h | h
    · obtain ⟨xs, ho⟩ := ho
      obtain ⟨c, ws, e1, _, _, n1, _⟩ := A.en.own i xs ho
      rw [e] at e1; cases e1
      exact n1 h
    · rw [h] at e
      exact q.no i ho e
  · obtain ⟨xs, ho⟩ := ho
    obtain ⟨c, ws, e1, _, _, _, n2⟩ := A.en.own i xs ho
    rw [e] at e1; cases e1
    exact n2
  · exact ⟨A.ent.pre, A.ent.new, fun b h => .inl (A.ent.fz b h), fun b h => h.elim (A.ent.fzn b) fun e => .inr (by rw [e]; exact q.n0), A.ent.keep, A.ent.there, A.ent.T, A.ent.tb⟩
  · rcases h with h | h
    · exact A.sure b h
    · exact ⟨_, by rw [h]; exact q.at_, nt_lst⟩
end
end
/-! ### judgements -/
section
variable {X : Cx} {z : Zx}
theorem _root_.L2.PE.imp {e : Expr} {t t' : TE} (h : PE X e t) (i : ∀ σ H Q, t' σ H Q → t σ H Q) : PE X e t' := ⟨fun pins s σ H Q I q => h.run pins s σ H Q I (i σ H Q q)⟩
theorem _root_.L2.PT.imp {e : Expr} {t t' : TT} (h : PT X e t) (i : ∀ σ H Q, t' σ H Q → t σ H Q) : PT X e t' := ⟨fun pins s σ H Q I q => h.run pins s σ H Q I (i σ H Q q)⟩
theorem _root_.L2.PA.imp {e : List Expr} {t t' : TA} (h : PA X e t) (i : ∀ σ H Q, t' σ H Q → t σ H Q) : PA X e t' := ⟨fun pos pins s σ H Q I q => h.run pos pins s σ H Q I (i σ H Q q)⟩
theorem _root_.L2.PS.imp {e : Stmt} {t t' : TS} (h : PS X e t) (i : ∀ D σ H, t' D σ H → t D σ H) : PS X e t' := ⟨fun pins s σ H D I q => h.run pins s σ H D I (i D σ H q)⟩
theorem _root_.L2.PSs.imp {e : List Stmt} {t t' : TS} (h : PSs X e t) (i : ∀ D σ H, t' D σ H → t D σ H) : PSs X e t' := ⟨fun pins s σ H D I q => h.run pins s σ H D I (i D σ H q)⟩
abbrev ME (X : Cx) (z : Zx) (e : Expr) (d : Cd PV) : Prop := PE X e (RE z d)
abbrev MT (X : Cx) (z : Zx) (e : Expr) (d : Cd Bool) : Prop := PT X e (RT z d)
abbrev MA (X : Cx) (z : Zx) (e : List Expr) (d : Cd (List PV)) : Prop := PA X e (RA z d)
abbrev MF (X : Cx) (z : Zx) (e : Expr) (d : Cd (List PV)) : Prop := PE X e (RF z d)
/-! ### names and constants -/
variable {pos p1 p2 : Pos}
theorem me_c {e : Expr} {v : V} {p : PV} (h : PE X e (tC v)) (hr : ∀ G, Rep z.K G p v) : ME X z e (ret p) :=
  h.imp fun σ H Q ⟨G, env, S, e, A, P⟩ => by
    subst e
    exact P v G (Mon.refl G) A (hr G)
theorem me_int {i : Int} {j} : ME X z (.Constant (.int i) j pos) (ret (.int i)) := me_c pe_int fun _ => .int i
theorem me_bl {b : Bool} {j} : ME X z (.Constant (.bool b) j pos) (ret (.bl b)) := me_c pe_bl fun _ => .bl b
/-- a module's name: a constant, or a def or class as a value -/
theorem me_glob {x : Str} {v : V} {u : Value} {p : PV} (hm : X.mg x = some u) (r : RelV v u) (hr : ∀ G, Rep z.K G p v) (hg : Gl X x := by rfl) (hd : (x == ("__debug__" : Str)) = false := by decide) : ME X z (.Name x pos) (ret p) := me_c (pe_glob hg hm r hd) hr
theorem me_gint {x : Str} {i : Int} {t : Tok} (hm : X.mg x = some (.int i t)) (hg : Gl X x := by rfl) (hd : (x == ("__debug__" : Str)) = false := by decide) : ME X z (.Name x pos) (ret (.int i)) := me_glob (v := .int i) hm ⟨_, rfl⟩ (fun _ => .int i) hg hd
theorem me_ty {x : Str} {n : String} (hm : X.mg x = none) (hv : bootBuiltins x = some (.type n)) (hg : Gl X x := by rfl) (hn : x ≠ "__name__" := by decide) (hd : (x == ("__debug__" : Str)) = false := by decide) : ME X z (.Name x pos) (ret (.raw (.ty n))) :=
  me_c (pe_bltn (v := .ty n) hg hm hv rfl hn hd) fun _ => .raw _
/-! ### arguments, displays -/
def dNil : Cd (List PV) := ret []
def dCons (d : Cd PV) (r : Cd (List PV)) : Cd (List PV) := bnd d fun p => bnd r fun ps => ret (p :: ps)
theorem ma_nil : MA X z [] dNil := pa_nil.imp fun σ H Q ⟨G, env, S, e, A, P⟩ => by
  subst e
  exact P [] G (Mon.refl G) A .nil
theorem ma_cons {e : Expr} {es : List Expr} {d : Cd PV} {r : Cd (List PV)} (ha : ME X z e d) (hr : MA X z es r) (hs : starEach (e :: es) X.env = (false, eval e X.env) :: starEach es X.env := by rfl) : MA X z (e :: es) (dCons d r) := by
  refine (pa_cons ha hr hs).imp fun σ H Q ⟨G, env, S, e, A, P⟩ => ?_
  subst e
  exact toE lwA A P fun p env1 S1 v G1 m1 A1 r1 P1 => toA lwA A1 P1 fun ps env2 S2 vs G2 m2 A2 r2 P2 => P2 (v :: vs) G2 (Mon.refl _) A2 (.cons (r1.mon m2) r2)
def dTup (d : Cd (List PV)) : Cd PV := bnd d fun ps => if ps.length ≤ sizeLine then ret (.tup ps) else fun _ _ => .bad
theorem me_tup {es : List Expr} {d : Cd (List PV)} {x1} (h : MA X z es d) : ME X z (.Tuple es x1 pos) (dTup d) := by
  refine (pe_tupN h).imp fun σ H Q ⟨G, env, S, e, A, P⟩ => ?_
  subst e
  refine toA lwE A P fun ps env1 S1 vs G1 m1 A1 r1 P1 => ?_
  by_cases hl : ps.length ≤ sizeLine
  · rw [if_pos hl] at P1
    refine ⟨by rw [← r1.length]; exact hl, fun p o hn ho => ?_⟩
    have M : Mon G1 (G1.frozen p (.frz o (.tup vs))) := (Ext.frozen hn).mon A1.sure
    exact P1 _ _ M (A1.frozen hn) (.tup (.inl ⟨.inr rfl, o, ho, upd_same⟩) (r1.mon M))
  · rw [if_neg hl] at P1
    exact P1.elim
def dDisp (d : Cd (List PV)) : Cd (List PV) := bnd d fun ps => if ps.length ≤ sizeLine then ret ps else fun _ _ => .bad
theorem mf_disp {es : List Expr} {d : Cd (List PV)} (h : MA X z es d) : MF X z (.List es pos) (dDisp d) := by
  refine (pe_lst h).imp fun σ H Q ⟨G, env, S, e, A, P⟩ => ?_
  subst e
  refine toA lwF A P fun ps env1 S1 vs G1 m1 A1 r1 P1 => ?_
  by_cases hl : ps.length ≤ sizeLine
  · rw [if_pos hl] at P1
    refine ⟨by rw [← r1.length]; exact hl, fun p hn => ?_⟩
    have M : Mon G1 (G1.fresh p (.lst vs)) := (Ext.fresh hn).mon A1.sure
    have q := A1.alone (vs := vs) hn
    exact P1 p vs _ M (A1.fresh hn) (r1.mon M) q.at_ q.nf q.nm q.n0 q.no
  · rw [if_neg hl] at P1
    exact P1.elim
/-- a new list as a value: nobody changes it from here on -/
def dFrz (d : Cd (List PV)) : Cd PV := bnd d fun xs => ret (.lst xs)
theorem me_frz {e : Expr} {d : Cd (List PV)} (h : MF X z e d) : ME X z e (dFrz d) := by
  refine PE.imp h fun σ H Q ⟨G, env, S, e, A, P⟩ => ?_
  subst e
  exact toF lwE A P fun xs env1 S1 a vs G1 m1 A1 r1 al P1 => P1 (.ref a) (G1.freeze a) mon_freeze (A1.freeze al) (.lst (.inr rfl) al.at_ (r1.mon mon_freeze))
/-- a new shared list -/
def dNew (d : Cd (List PV)) : Cd PV := bnd d fun xs => fun e s => .ok (.ref s.length) e (s ++ [.lst xs])
theorem me_new {e : Expr} {d : Cd (List PV)} (h : MF X z e d) : ME X z e (dNew d) := by
  refine PE.imp h fun σ H Q ⟨G, env, S, e, A, P⟩ => ?_
  subst e
  refine toF lwE A P fun xs env1 S1 a vs G1 m1 A1 r1 al P1 => ?_
  have M : Mon G1 ⟨G1.m ++ [a], G1.fz, G1.H, G1.T⟩ := ⟨⟨[a], rfl⟩, fun b h => ⟨h, rfl⟩⟩
  refine P1 (.ref a) ⟨G1.m ++ [a], G1.fz, G1.H, G1.T⟩ M ⟨⟨?_, ?_, fun b hb h => ?_, fun i b o h1 h2 => ?_⟩, A1.en.over M fun i b ho e => ⟨rfl, ?_, fun hb => ?_⟩, ?_, A1.mine, A1.sure⟩ (.ref ?_)
  · simp [A1.st.len]
  · exact List.nodup_append.mpr ⟨A1.st.nd, by simp, fun b hb c hc e => al.nm (by
      have : c = a := by simpa using hc
      rw [← this, ← e]; exact hb)⟩
  · rcases List.mem_append.mp hb with hb | hb
    · exact A1.st.nf b hb h
    · have : b = a := by simpa using hb
      rw [this] at h; exact al.nf h
  · by_cases hi : i < G1.m.length
    · rw [List.getElem?_append_left hi] at h1
      rw [List.getElem?_append_left (by rw [← A1.st.len]; exact hi)] at h2
      exact (A1.st.ob i b o h1 h2).mono M
    · have hi2 : i = G1.m.length := by
        have := (List.getElem?_eq_some_iff.mp h1).1
        simp at this
        omega
      subst hi2
      rw [List.getElem?_append_right (Nat.le_refl _)] at h1
      rw [A1.st.len, List.getElem?_append_right (Nat.le_refl _)] at h2
      simp at h1 h2
      subst h1 h2
      exact ⟨vs, al.at_, r1.mon M⟩
  · obtain ⟨xs', ho⟩ := ho
    obtain ⟨c, ws, e1, _, _, n1, _⟩ := A1.en.own i xs' ho
    rw [e] at e1; cases e1
    exact n1
  · rcases List.mem_append.mp hb with hb | hb
    · obtain ⟨xs', ho⟩ := ho
      obtain ⟨c, ws, e1, _, _, _, n2⟩ := A1.en.own i xs' ho
      rw [e] at e1; cases e1
      exact n2 hb
    · have : b = a := by simpa using hb
      rw [this] at e
      exact al.no i ho e
  · obtain ⟨r, q⟩ := A1.ent.pre
    exact ⟨⟨r ++ [a], by show G1.m ++ [a] = _; rw [q, List.append_assoc]⟩, fun b hb => (List.mem_append.mp hb).elim (A1.ent.new b) fun h => .inr (by
      have : b = a := by simpa using h
      rw [this]; exact al.n0), A1.ent.fz, A1.ent.fzn, A1.ent.keep, A1.ent.there, A1.ent.T, A1.ent.tb⟩
  · show (G1.m ++ [a])[S1.length]? = some a
    rw [← A1.st.len]
    simp
/-! ### operators by values -/
/-- g is served by f: values in, a value out, new things at most -/
def OpD (X : Cx) (z : Zx) (g : Value → Value → Sem Value) (f : Stt → PV → PV → Option PV) : Prop :=
  ∃ r : R2, OpR X g r ∧ ∀ (G : Wd) (S : Stt) (p q w : PV) (x y : V) (Q : VK), f S p q = some w → RepS z.K G S → Sure G → Rep z.K G p x → Rep z.K G q y →
    (∀ v G', Ext G G' → Sure G' → Rep z.K G' w v → Q v G'.H) → r x y G.H Q
theorem OpD.or {g : Value → Value → Sem Value} {f f' : Stt → PV → PV → Option PV} (h : OpD X z g f) (h' : OpD X z g f') : OpD X z g (fun S p q => (f S p q).or (f' S p q)) := by
  obtain ⟨r, o, k⟩ := h
  obtain ⟨r', o', k'⟩ := h'
  refine ⟨_, o.or o', fun G S p q w x y Q e s su rp rq hq => ?_⟩
  replace e : (f S p q).or (f' S p q) = some w := e
  cases e1 : f S p q with
  | some w' =>
    rw [e1, Option.some_or] at e
    exact .inl (k G S p q w x y Q (by rw [e1, e]) s su rp rq hq)
  | none =>
    rw [e1, Option.none_or] at e
    exact .inr (k' G S p q w x y Q e s su rp rq hq)
def dOp (f : Stt → PV → PV → Option PV) (da db : Cd PV) : Cd PV := bnd da fun p => bnd db fun q => fun e s => match f s p q with
  | some w => .ok w e s
  | none => .bad
theorem re_op {g : Value → Value → Sem Value} {f : Stt → PV → PV → Option PV} {da db : Cd PV} {r : R2} {σ : St} {H : Hp} {Q : VK}
    (k : ∀ (G : Wd) (S : Stt) (p q w : PV) (x y : V) (Q : VK), f S p q = some w → RepS z.K G S → Sure G → Rep z.K G p x → Rep z.K G q y → (∀ v G', Ext G G' → Sure G' → Rep z.K G' w v → Q v G'.H) → r x y G.H Q)
    (h : RE z (dOp f da db) σ H Q) : tOp r (RE z da) (RE z db) σ H Q := by
  obtain ⟨G, env, S, e, A, P⟩ := h
  subst e
  refine toE lwE A P fun p env1 S1 x G1 m1 A1 r1 P1 => toE lwE A1 P1 fun q env2 S2 y G2 m2 A2 r2 P2 => ?_
  cases e : f S2 p q with
  | none => simp only [e] at P2; exact P2.elim
  | some w =>
    simp only [e] at P2
    exact k G2 S2 p q w x y Q e A2.st A2.sure (r1.mon m2) r2 fun v G' xx su rv => P2 v G' (xx.mon A2.sure) (A2.ext xx su) rv
variable {a b : Expr} {da db : Cd PV}
theorem me_op {op : Operator} {f : Stt → PV → PV → Option PV} (o : OpD X z (binaryOp op) f) (ha : ME X z a da) (hb : ME X z b db) : ME X z (.BinOp a op b pos) (dOp f da db) := by
  obtain ⟨r, o, k⟩ := o
  exact (pe_op o ha hb).imp fun σ H Q h => re_op (g := binaryOp op) k h
theorem me_cmp {op : CmpOp} {f : Stt → PV → PV → Option PV} (o : OpD X z (compareOp op) f) (ha : ME X z a da) (hb : ME X z b db) (hm : behindInMarks op b = false) : ME X z (.Compare a [op] [b] pos) (dOp f da db) := by
  obtain ⟨r, o, k⟩ := o
  exact (pe_cmpR o ha hb hm).imp fun σ H Q h => re_op (g := compareOp op) k h
/-- an answer as a truth -/
def asB : PV → Option Bool
  | .bl b => some b
  | _ => none
def dB (d : Cd PV) : Cd Bool := bnd d fun p => lift (asB p)
theorem asB_rep {p : PV} {b : Bool} {K : PySem.W.Frag} {G : Wd} {v : V} (h : asB p = some b) (r : Rep K G p v) : v = .bl b := by
  cases p with
  | bl c =>
    cases r
    have : c = b := Option.some.inj h
    rw [this]
  | _ => cases h
theorem rt_b {d : Cd PV} {σ : St} {H : Hp} {Q : Bool → Hp → Prop} (h : RT z (dB d) σ H Q) : RE z d σ H fun x H' => ∃ k, x = .bl k ∧ Q k H' := by
  obtain ⟨G, env, S, e, A, P⟩ := h
  subst e
  refine toE lwT A P fun p env1 S1 x G1 m1 A1 r1 P1 => ?_
  unfold lift at P1
  cases e : asB p with
  | none => simp only [e] at P1; exact P1.elim
  | some k =>
    simp only [e] at P1
    exact ⟨k, asB_rep e r1, P1 G1 (Mon.refl _) A1⟩
theorem mt_cmp {op : CmpOp} {f : Stt → PV → PV → Option PV} (o : OpD X z (compareOp op) f) (ha : ME X z a da) (hb : ME X z b db) (hm : behindInMarks op b = false) : MT X z (.Compare a [op] [b] pos) (dB (dOp f da db)) := by
  obtain ⟨r, o, k⟩ := o
  refine (pt_cmpR o ha hb hm).imp fun σ H Q h => ?_
  have h' := rt_b h
  exact re_op (g := compareOp op) k h'
/-- a < b < c -/
def dChain (f f' : Stt → PV → PV → Option PV) (da db dc : Cd PV) : Cd PV := bnd da fun p => bnd db fun q => fun e s => match f s p q with
  | some (.bl true) => bnd dc (fun r => fun e' s' => match f' s' q r with
    | some w => .ok w e' s'
    | none => .bad) e s
  | some (.bl false) => .ok (.bl false) e s
  | _ => .bad
theorem re_chain {g g' : Value → Value → Sem Value} {f f' : Stt → PV → PV → Option PV} {da db dc : Cd PV} {r r' : R2} {σ : St} {H : Hp} {Q : VK}
    (k : ∀ (G : Wd) (S : Stt) (p q w : PV) (x y : V) (Q : VK), f S p q = some w → RepS z.K G S → Sure G → Rep z.K G p x → Rep z.K G q y → (∀ v G', Ext G G' → Sure G' → Rep z.K G' w v → Q v G'.H) → r x y G.H Q)
    (k' : ∀ (G : Wd) (S : Stt) (p q w : PV) (x y : V) (Q : VK), f' S p q = some w → RepS z.K G S → Sure G → Rep z.K G p x → Rep z.K G q y → (∀ v G', Ext G G' → Sure G' → Rep z.K G' w v → Q v G'.H) → r' x y G.H Q)
    (h : RE z (dChain f f' da db dc) σ H Q) : tChain r r' (RE z da) (RE z db) (RE z dc) σ H Q := by
  obtain ⟨G, env, S, e, A, P⟩ := h
  subst e
  refine toE lwE A P fun p env1 S1 x G1 m1 A1 r1 P1 => toE lwE A1 P1 fun q env2 S2 y G2 m2 A2 r2 P2 => ?_
  cases e : f S2 p q with
  | none => simp only [e] at P2; exact P2.elim
  | some w =>
    simp only [e] at P2
    refine k G2 S2 p q w x y _ e A2.st A2.sure (r1.mon m2) r2 fun v G' xx su rv => ?_
    have M := xx.mon A2.sure
    have A3 := A2.ext xx su
    cases w with
    | bl c =>
      cases rv
      refine ⟨c, rfl, ?_⟩
      cases c with
      | false =>
        rw [if_neg Bool.false_ne_true]
        exact P2 (.bl false) G' M A3 (.bl false)
      | true =>
        rw [if_pos rfl]
        refine toE lwE A3 (P2.later M) fun t env4 S4 u G4 m4 A4 r4 P4 => ?_
        cases e' : f' S4 q t with
        | none => simp only [e'] at P4; exact P4.elim
        | some w' =>
          simp only [e'] at P4
          exact k' G4 S4 q t w' y u Q e' A4.st A4.sure ((r2.mon M).mon m4) r4 fun v G' xx su rv => P4 v G' (xx.mon A4.sure) (A4.ext xx su) rv
    | _ => exact P2.elim
theorem me_chain {c : Expr} {op op' : CmpOp} {f f' : Stt → PV → PV → Option PV} {dc : Cd PV} (o : OpD X z (compareOp op) f) (o' : OpD X z (compareOp op') f') (ha : ME X z a da) (hb : ME X z b db) (hc : ME X z c dc)
    (hm : lastMarks [op, op'] [b, c] = false := by with_unfolding_all rfl) : ME X z (.Compare a [op, op'] [b, c] pos) (dChain f f' da db dc) := by
  obtain ⟨r, o, k⟩ := o
  obtain ⟨r', o', k'⟩ := o'
  exact (pe_chain o o' ha hb hc hm).imp fun σ H Q h => re_chain (g := compareOp op) (g' := compareOp op') k k' h
theorem mt_chain {c : Expr} {op op' : CmpOp} {f f' : Stt → PV → PV → Option PV} {dc : Cd PV} (o : OpD X z (compareOp op) f) (o' : OpD X z (compareOp op') f') (ha : ME X z a da) (hb : ME X z b db) (hc : ME X z c dc)
    (hm : lastMarks [op, op'] [b, c] = false := by with_unfolding_all rfl) : MT X z (.Compare a [op, op'] [b, c] pos) (dB (dChain f f' da db dc)) := by
  obtain ⟨r, o, k⟩ := o
  obtain ⟨r', o', k'⟩ := o'
  refine (pt_chain o o' ha hb hc hm).imp fun σ H Q h => ?_
  exact re_chain (g := compareOp op) (g' := compareOp op') k k' (rt_b h)
/-! ### truth, and, or, not, if -/
/-- a value's truth -/
def tru (S : Stt) : PV → Option Bool
  | .non => some false
  | .bl b => some b
  | .int i => some (i != 0)
  | .tup xs => some (!xs.isEmpty)
  | .lst xs => some (!xs.isEmpty)
  | .scr ns => some (!ns.isEmpty)
  | .ref n => match S[n]? with
    | some (.lst xs) => some (!xs.isEmpty)
    | none => none
  | _ => none
theorem isEmpty_rep {K : PySem.W.Frag} {G : Wd} {ps : List PV} {vs : List V} (r : RepL K G ps vs) : ps.isEmpty = vs.isEmpty := by
  cases r <;> rfl
theorem sqT_any {K : PySem.W.Frag} {H : Hp} {a : Addr} {xs : List V} (h : SqT K noH a xs) : SqT K H a xs := by
  rcases h with (h | ⟨o, h⟩) | h
  · cases h
  · cases h
  · exact .inr h
theorem Td.sq {K : PySem.W.Frag} {G : Wd} {a : Addr} {vs : List V} (h : Td K G a vs) : SqT K G.H a vs := by
  rcases h with ⟨_, o, _, h⟩ | h
  · exact .inl (.inr ⟨o, h⟩)
  · exact sqT_any h.1
theorem Td.mon {K : PySem.W.Frag} {G G1 : Wd} (M : Mon G G1) {a : Addr} {vs : List V} (h : Td K G a vs) : Td K G1 a vs := by
  rcases h with ⟨h1, o, h3, h2⟩ | h
  · obtain ⟨q1, q2⟩ := M.fz _ h1
    exact .inl ⟨q1, o, h3, q2.trans h2⟩
  · exact .inr h
theorem Rep.sqT {K : PySem.W.Frag} {G : Wd} {xs : List PV} {v : V} (r : Rep K G (.tup xs) v) : ∃ a vs, v = .ref a ∧ SqT K G.H a vs ∧ RepL K G xs vs := by
  cases r with
  | tup h r =>
    exact ⟨_, _, rfl, h.sq, r⟩
theorem Rep.sqZ {K : PySem.W.Frag} {G : Wd} {xs : List PV} {v : V} (r : Rep K G (.tuz xs) v) : ∃ a vs, v = .ref a ∧ SqT K G.H a vs ∧ RepL K G xs vs := by
  cases r with
  | tuz _ h r => exact ⟨_, _, rfl, SqT.of h, r⟩
theorem Rep.sqL {K : PySem.W.Frag} {G : Wd} {xs : List PV} {v : V} (r : Rep K G (.lst xs) v) : ∃ a vs, v = .ref a ∧ G.H a = some (.lst vs) ∧ RepL K G xs vs := by
  cases r with
  | lst _ h r => exact ⟨_, _, rfl, h, r⟩
theorem Rep.sqR {K : PySem.W.Frag} {G : Wd} {S : Stt} {n : Nat} {xs : List PV} {v : V} (r : Rep K G (.ref n) v) (s : RepS K G S) (e : S[n]? = some (.lst xs)) : ∃ a vs, v = .ref a ∧ G.m[n]? = some a ∧ G.H a = some (.lst vs) ∧ RepL K G xs vs := by
  cases r with
  | ref h =>
    obtain ⟨vs, e1, r1⟩ := s.ob _ _ _ h e
    exact ⟨_, vs, rfl, h, e1, r1⟩
theorem sqL_any {K : PySem.W.Frag} {H : Hp} {a : Addr} {xs : List V} (h : SqL K noH a xs) : SqL K H a xs := by
  rcases h with (h | ⟨o, h⟩) | h
  · cases h
  · cases h
  · exact .inr h
theorem Rep.scrM {K : PySem.W.Frag} {G : Wd} {ns : List Int} {v : V} (r : Rep K G (.scr ns) v) : ∃ a, v = .ref a ∧ ∀ G1, Mon G G1 → SqL K G1.H a (ns.map V.int) := by
  cases r with
  | scr h =>
    refine ⟨_, rfl, fun G1 M => ?_⟩
    rcases h with ⟨h1, h2⟩ | h
    · exact SqL.of_eq (M.fz _ h1).2 h2
    · exact sqL_any h
theorem Rep.sqS {K : PySem.W.Frag} {G : Wd} {ns : List Int} {v : V} (r : Rep K G (.scr ns) v) : ∃ a, v = .ref a ∧ SqL K G.H a (ns.map V.int) := by
  obtain ⟨a, e, h⟩ := r.scrM
  exact ⟨a, e, h G (Mon.refl G)⟩
theorem tru_rep {K : PySem.W.Frag} {G : Wd} {S : Stt} {p : PV} {v : V} {k : Bool} (h : tru S p = some k) (s : RepS K G S) (r : Rep K G p v) : TruV K v G.H k := by
  cases p with
  | non => cases r; exact (Option.some.inj h).symm
  | bl b => cases r; exact (Option.some.inj h).symm
  | int i => cases r; exact (Option.some.inj h).symm
  | str x => cases h
  | tup xs =>
    obtain ⟨a, vs, rfl, q, r'⟩ := r.sqT
    exact .inr (.inl ⟨vs, q, by rw [← isEmpty_rep r']; exact (Option.some.inj h).symm⟩)
  | lst xs =>
    obtain ⟨a, vs, rfl, q, r'⟩ := r.sqL
    exact .inl ⟨vs, SqL.of q, by rw [← isEmpty_rep r']; exact (Option.some.inj h).symm⟩
  | scr ns =>
    obtain ⟨a, rfl, q⟩ := r.sqS
    refine .inl ⟨_, q, ?_⟩
    rw [← Option.some.inj h]
    cases ns <;> rfl
  | ref n =>
    unfold tru at h
    cases e : S[n]? with
    | none => simp only [e] at h; cases h
    | some o =>
      cases o with
      | lst xs =>
        simp only [e] at h
        obtain ⟨a, vs, rfl, _, q, r'⟩ := r.sqR s e
        exact .inl ⟨vs, SqL.of q, by rw [← isEmpty_rep r']; exact (Option.some.inj h).symm⟩
  | raw v => cases h
  | tuz xs => cases h
def dTru (d : Cd PV) : Cd Bool := bnd d fun p => fun e s => match tru s p with
  | some b => .ok b e s
  | none => .bad
theorem mt_tru {e : Expr} {d : Cd PV} (h : ME X z e d) (hK : z.K = X.K := by rfl) (he : ∀ whole, isTrue e X.env whole = (do let v ← whole; standAt e.pos; holding [v] (truthy v)) := by intro _; rfl) : MT X z e (dTru d) := by
  refine (pt_truth h he).imp fun σ H Q ⟨G, env, S, e, A, P⟩ => ?_
  subst e
  refine toE lwT A P fun p env1 S1 x G1 m1 A1 r1 P1 => ?_
  cases e : tru S1 p with
  | none => simp only [e] at P1; exact P1.elim
  | some k =>
    simp only [e] at P1
    exact ⟨k, by rw [← hK]; exact tru_rep e A1.st r1, P1 G1 (Mon.refl _) A1⟩
def dNotT (d : Cd Bool) : Cd Bool := bnd d fun b => ret (!b)
def dAndT (d r : Cd Bool) : Cd Bool := bnd d fun b => if b = true then r else ret false
def dOrT (d r : Cd Bool) : Cd Bool := bnd d fun b => if b = true then ret true else r
theorem mt_not {d : Cd Bool} (h : MT X z a d) : MT X z (.UnaryOp .Not a pos) (dNotT d) :=
  (pt_not h).imp fun σ H Q ⟨G, env, S, e, A, P⟩ => by
    subst e
    exact toT lwT A P fun b env1 S1 G1 m1 A1 P1 => P1 G1 (Mon.refl _) A1
abbrev MW (X : Cx) (z : Zx) (e : Expr) (d : Cd Bool) : Prop := PW X e (RT z d)
theorem _root_.L2.PW.imp {e : Expr} {t t' : TT} (h : PW X e t) (i : ∀ σ H Q, t' σ H Q → t σ H Q) : PW X e t' := ⟨fun wh pins s σ H Q I q => h.run wh pins s σ H Q I (i σ H Q q)⟩
theorem mw_and1 {d : Cd Bool} (h : MT X z a d) : MW X z (.BoolOp .And [a] pos) d := pw_and1 h
theorem mw_or1 {d : Cd Bool} (h : MT X z a d) : MW X z (.BoolOp .Or [a] pos) d := pw_or1 h
theorem mw_and {rest : List Expr} {d r : Cd Bool} (h : MT X z a d) (hr : MW X z (.BoolOp .And (b :: rest) pos) r) : MW X z (.BoolOp .And (a :: b :: rest) pos) (dAndT d r) :=
  (pw_and h hr).imp fun σ H Q ⟨G, env, S, e, A, P⟩ => by
    subst e
    refine toT lwT A P fun k env1 S1 G1 m1 A1 P1 => ?_
    cases k with
    | true => exact ⟨G1, env1, S1, rfl, A1, P1⟩
    | false => exact P1 G1 (Mon.refl _) A1
theorem mw_or {rest : List Expr} {d r : Cd Bool} (h : MT X z a d) (hr : MW X z (.BoolOp .Or (b :: rest) pos) r) : MW X z (.BoolOp .Or (a :: b :: rest) pos) (dOrT d r) :=
  (pw_or h hr).imp fun σ H Q ⟨G, env, S, e, A, P⟩ => by
    subst e
    refine toT lwT A P fun k env1 S1 G1 m1 A1 P1 => ?_
    cases k with
    | true => exact P1 G1 (Mon.refl _) A1
    | false => exact ⟨G1, env1, S1, rfl, A1, P1⟩
theorem mt_w {e : Expr} {d : Cd Bool} (h : MW X z e d) : MT X z e d := PW.pt h
/-- .. as values: all but the last True or False -/
def dAndV (d r : Cd PV) : Cd PV := bnd (dB d) fun b => if b = true then r else ret (.bl false)
def dOrV (d r : Cd PV) : Cd PV := bnd (dB d) fun b => if b = true then ret (.bl true) else r
theorem me_one {op} {d : Cd PV} (h : ME X z a d) : ME X z (.BoolOp op [a] pos) d := pe_one h
theorem bnd_assoc {α β γ : Type} (d : Cd α) (k : α → Cd β) (l : β → Cd γ) : bnd (bnd d k) l = bnd d fun a => bnd (k a) l := by
  funext e s
  unfold bnd
  cases d e s <;> rfl
theorem toB {β : Type} {F : Wd → Out β → Prop} {G : Wd} {env : Env} {S : Stt} {σ : St} (L : Lw z F) {d : Cd PV} {k : Bool → Cd β} {R : VK} (A : At z.K z.G0 G S env σ) (P : F G (bnd (dB d) k env S))
    (h : ∀ b env1 S1 G1, Mon G G1 → At z.K z.G0 G1 S1 env1 σ → F G1 (k b env1 S1) → R (.bl b) G1.H) : RE z d σ G.H R := by
  unfold dB at P
  rw [bnd_assoc] at P
  refine toE L A P fun p env1 S1 v G1 m1 A1 r1 P1 => ?_
  unfold lift bnd at P1
  cases e : asB p with
  | none => simp only [e] at P1; exact (L.bad _ P1).elim
  | some c =>
    simp only [e] at P1
    rw [asB_rep e r1]
    exact h c env1 S1 G1 m1 A1 P1
theorem me_and {rest : List Expr} {d r : Cd PV} (h : ME X z a d) (hr : ME X z (.BoolOp .And (b :: rest) pos) r) : ME X z (.BoolOp .And (a :: b :: rest) pos) (dAndV d r) :=
  (pe_and h hr).imp fun σ H Q ⟨G, env, S, e, A, P⟩ => by
    subst e
    refine toB lwE A P fun k env1 S1 G1 m1 A1 P1 => ⟨k, rfl, ?_⟩
    cases k with
    | true => exact ⟨G1, env1, S1, rfl, A1, P1⟩
    | false => exact P1 (.bl false) G1 (Mon.refl _) A1 (.bl false)
def dNotV (d : Cd PV) : Cd PV := bnd (dB d) fun b => ret (.bl (!b))
theorem me_not {d : Cd PV} (h : ME X z a d) : ME X z (.UnaryOp .Not a pos) (dNotV d) :=
  (pe_not h).imp fun σ H Q ⟨G, env, S, e, A, P⟩ => by
    subst e
    exact toB lwE A P fun k env1 S1 G1 m1 A1 P1 => ⟨k, rfl, P1 _ G1 (Mon.refl _) A1 (.bl _)⟩
def dIfE (t : Cd Bool) (da db : Cd PV) : Cd PV := bnd t fun b => if b = true then da else db
theorem me_if {t : Expr} {d : Cd Bool} (ht : MT X z t d) (ha : ME X z a da) (hb : ME X z b db) : ME X z (.IfExp t a b pos) (dIfE d da db) :=
  (pe_ifExp ht ha hb).imp fun σ H Q ⟨G, env, S, e, A, P⟩ => by
    subst e
    refine toT lwE A P fun k env1 S1 G1 m1 A1 P1 => ?_
    cases k with
    | true => exact ⟨G1, env1, S1, rfl, A1, P1⟩
    | false => exact ⟨G1, env1, S1, rfl, A1, P1⟩
def dUn (f : PV → Option PV) (d : Cd PV) : Cd PV := bnd d fun p => lift (f p)
def pNeg : PV → Option PV
  | .int i => some (.int (-i))
  | _ => none
theorem me_neg {d : Cd PV} (h : ME X z a d) : ME X z (.UnaryOp .USub a pos) (dUn pNeg d) :=
  (pe_un un_neg h).imp fun σ H Q ⟨G, env, S, e, A, P⟩ => by
    subst e
    refine toE lwE A P fun p env1 S1 v G1 m1 A1 r1 P1 => ?_
    cases p with
    | int i =>
      cases r1
      exact ⟨i, rfl, P1 _ G1 (Mon.refl _) A1 (.int _)⟩
    | _ => exact P1.elim
end
end FS
set_option Elab.async false
set_option linter.all false
set_option maxRecDepth 100000
/-! FsStmt: statements. -/
namespace FS
open PySem PySem.Spec L2
theorem getElem?_set' {α : Type} (l : List α) (i j : Nat) (a : α) : (l.set i a)[j]? = if i = j then (if i < l.length then some a else none) else l[j]? := by
  by_cases h : i = j
  · subst h
    rw [if_pos rfl]
    by_cases hl : i < l.length
    · rw [if_pos hl, List.getElem?_set_self hl]
    · rw [if_neg hl, List.getElem?_eq_none (by rw [List.length_set]; omega)]
  · rw [if_neg h, List.getElem?_set_ne h]
section
variable {z : Zx} {G : Wd} {env : Env} {S : Stt} {σ : St} {i : Nat}
/-- a place's value is replaced by one that is not held alone -/
theorem At.setSlot0 {s : Slot} {v : Option V} (A : At z.K z.G0 G S env σ) (hs : (s = .none) ∨ (∃ p w, s = .val p ∧ v = some w ∧ Rep z.K G p w) ∨ ∃ a d w, s = .exc a d w ∧ v = some (.ref a) ∧ G.fz d ∧ ∃ u, G.H d = some (.xd [(("what" : Str), u)]) ∧ Rep z.K G w u) : At z.K z.G0 G S (env.set i s) (σ.set i v) := by
  have hno : ∀ xs, s ≠ .own xs := fun xs e => by
    rcases hs with h | ⟨p, w, h, _⟩ | ⟨a, d, w, h, _⟩ <;> (rw [h] at e; cases e)
  have own' : ∀ (j : Nat) (xs : List PV), (env.set i s)[j]? = some (.own xs) → i ≠ j ∧ env[j]? = some (.own xs) := fun j xs e => by
    rw [getElem?_set'] at e
    by_cases hj : i = j
    · rw [if_pos hj] at e
      by_cases hl : i < env.length
      · rw [if_pos hl] at e
        exact absurd (Option.some.inj e) (hno xs)
      · rw [if_neg hl] at e; cases e
    · rw [if_neg hj] at e
      exact ⟨hj, e⟩
  refine ⟨A.st, ⟨by rw [List.length_set, List.length_set]; exact A.en.len, fun j p e => ?_, fun j xs e => ?_, fun j b d w e => ?_, fun j k a h1 h2 e1 e2 => ?_⟩, A.ent, fun j a h e => ?_, A.sure⟩
  · rw [getElem?_set'] at e
    by_cases hj : i = j
    · rw [if_pos hj] at e
      by_cases hl : i < env.length
      · rw [if_pos hl] at e
        have e' := Option.some.inj e
        rcases hs with h | ⟨q, w, h, hv, r⟩ | ⟨b, d, w, h, _⟩
        · rw [h] at e'; cases e'
        · rw [h] at e'; cases e'
          exact ⟨w, by rw [getElem?_set', if_pos hj, if_pos (by rw [← A.en.len]; exact hl), hv], r⟩
        · rw [h] at e'; cases e'
      · rw [if_neg hl] at e; cases e
    · rw [if_neg hj] at e
      obtain ⟨w, e1, r⟩ := A.en.val j p e
      exact ⟨w, by rw [List.getElem?_set_ne hj]; exact e1, r⟩
  · obtain ⟨hj, e⟩ := own' j xs e
    obtain ⟨a, vs, e1, r⟩ := A.en.own j xs e
    exact ⟨a, vs, by rw [List.getElem?_set_ne hj]; exact e1, r⟩
  · rw [getElem?_set'] at e
    by_cases hj : i = j
    · rw [if_pos hj] at e
      by_cases hl : i < env.length
      · rw [if_pos hl] at e
        have e' := Option.some.inj e
        rcases hs with h | ⟨q, w, h, hv, r⟩ | ⟨b, d, w, h, hv, r⟩
        · rw [h] at e'; cases e'
        · rw [h] at e'; cases e'
        · rw [h] at e'; cases e'
          exact ⟨by rw [getElem?_set', if_pos hj, if_pos (by rw [← A.en.len]; exact hl), hv], r⟩
      · rw [if_neg hl] at e; cases e
    · rw [if_neg hj] at e
      obtain ⟨e1, r⟩ := A.en.exc j b d w e
      exact ⟨by rw [List.getElem?_set_ne hj]; exact e1, r⟩
  · obtain ⟨xs, h1⟩ := h1
    obtain ⟨ys, h2⟩ := h2
    obtain ⟨n1, h1⟩ := own' j xs h1
    obtain ⟨n2, h2⟩ := own' k ys h2
    rw [List.getElem?_set_ne n1] at e1
    rw [List.getElem?_set_ne n2] at e2
    exact A.en.dis j k a ⟨xs, h1⟩ ⟨ys, h2⟩ e1 e2
  · obtain ⟨xs, h⟩ := h
    obtain ⟨n1, h⟩ := own' j xs h
    rw [List.getElem?_set_ne n1] at e
    exact A.mine j a ⟨xs, h⟩ e
theorem At.setSlot {s : Slot} {v : Option V} (A : At z.K z.G0 G S env σ) (hs : (s = .none) ∨ ∃ p w, s = .val p ∧ v = some w ∧ Rep z.K G p w) : At z.K z.G0 G S (env.set i s) (σ.set i v) := A.setSlot0 (hs.elim .inl fun h => .inr (.inl h))
theorem At.setVal {p : PV} {v : V} (A : At z.K z.G0 G S env σ) (r : Rep z.K G p v) : At z.K z.G0 G S (env.set i (.val p)) (σ.set i (some v)) := A.setSlot (.inr ⟨p, v, rfl, rfl, r⟩)
theorem At.setOwn {xs : List PV} {a : Addr} {vs : List V} (A : At z.K z.G0 G S env σ) (r : RepL z.K G xs vs) (al : Alone z G env σ a vs) : At z.K z.G0 G S (env.set i (.own xs)) (σ.set i (some (.ref a))) := by
  have cas : ∀ (j : Nat) (ys : List PV), (env.set i (.own xs))[j]? = some (.own ys) → (i = j ∧ i < σ.length ∧ ys = xs) ∨ (i ≠ j ∧ env[j]? = some (.own ys)) := fun j ys e => by
    rw [getElem?_set'] at e
    by_cases hj : i = j
    · rw [if_pos hj] at e
      by_cases hl : i < env.length
      · rw [if_pos hl] at e
        cases e
        exact .inl ⟨hj, by rw [← A.en.len]; exact hl, rfl⟩
      · rw [if_neg hl] at e; cases e
    · rw [if_neg hj] at e
      exact .inr ⟨hj, e⟩
  refine ⟨A.st, ⟨by rw [List.length_set, List.length_set]; exact A.en.len, fun j p e => ?_, fun j ys e => ?_, fun j b d w e => ?_, fun j k b h1 h2 e1 e2 => ?_⟩, A.ent, fun j b h e => ?_, A.sure⟩
  · rw [getElem?_set'] at e
    by_cases hj : i = j
    · rw [if_pos hj] at e
      split at e <;> cases e
    · rw [if_neg hj] at e
      obtain ⟨w, e1, r⟩ := A.en.val j p e
      exact ⟨w, by rw [List.getElem?_set_ne hj]; exact e1, r⟩
  · rcases cas j ys e with ⟨rfl, hl, rfl⟩ | ⟨hj, e⟩
    · exact ⟨a, vs, by rw [List.getElem?_set_self hl], al.at_, r, al.nf, al.nm⟩
    · obtain ⟨b, ws, e1, r⟩ := A.en.own j ys e
      exact ⟨b, ws, by rw [List.getElem?_set_ne hj]; exact e1, r⟩
  · rw [getElem?_set'] at e
    by_cases hj : i = j
    · rw [if_pos hj] at e
      split at e <;> cases e
    · rw [if_neg hj] at e
      obtain ⟨e1, r⟩ := A.en.exc j b d w e
      exact ⟨by rw [List.getElem?_set_ne hj]; exact e1, r⟩
  · obtain ⟨ys, h1⟩ := h1
    obtain ⟨us, h2⟩ := h2
    rcases cas j ys h1 with ⟨rfl, hl, rfl⟩ | ⟨hj, h1⟩
    · rcases cas k us h2 with ⟨rfl, _, _⟩ | ⟨hk, h2⟩
      · rfl
      · rw [List.getElem?_set_self hl] at e1
        cases e1
        rw [List.getElem?_set_ne hk] at e2
        exact absurd e2 (al.no k ⟨us, h2⟩)
    · rw [List.getElem?_set_ne hj] at e1
      rcases cas k us h2 with ⟨rfl, hl, _⟩ | ⟨hk, h2⟩
      · rw [List.getElem?_set_self hl] at e2
        cases e2
        exact absurd e1 (al.no j ⟨ys, h1⟩)
      · rw [List.getElem?_set_ne hk] at e2
        exact A.en.dis j k b ⟨ys, h1⟩ ⟨us, h2⟩ e1 e2
  · obtain ⟨ys, h⟩ := h
    rcases cas j ys h with ⟨rfl, hl, rfl⟩ | ⟨hj, h⟩
    · rw [List.getElem?_set_self hl] at e
      cases e
      exact al.n0
    · rw [List.getElem?_set_ne hj] at e
      exact A.mine j b ⟨ys, h⟩ e
/-- the list that a place alone holds is frozen -/
theorem At.thaw {xs : List PV} (A : At z.K z.G0 G S env σ) (h : env[i]? = some (.own xs)) : ∃ a vs, σ[i]? = some (some (.ref a)) ∧ Alone z G (env.set i .none) σ a vs ∧ RepL z.K G xs vs := by
  obtain ⟨a, vs, e1, e2, r, n1, n2⟩ := A.en.own i xs h
  refine ⟨a, vs, e1, ⟨e2, n1, n2, A.mine i a ⟨xs, h⟩ e1, fun j ho e => ?_⟩, r⟩
  obtain ⟨ys, ho⟩ := ho
  rw [getElem?_set'] at ho
  by_cases hj : i = j
  · rw [if_pos hj] at ho
    split at ho <;> cases ho
  · rw [if_neg hj] at ho
    exact hj (A.en.dis i j a ⟨xs, h⟩ ⟨ys, ho⟩ e1 e)
end
/-! ### targets -/
def PostG (z : Zx) (G : Wd) (Q : St → Hp → Prop) : Out Unit → Prop
  | .ok _ env S => ∀ (σ' : St) (G' : Wd), Mon G G' → At z.K z.G0 G' S env σ' → Q σ' G'.H
  | .raise c w env S => ∀ σ', PRaise z G c w env S σ'
  | .bad => False
theorem PostG.later {z : Zx} {G G1 : Wd} {Q : St → Hp → Prop} {o : Out Unit} (h : PostG z G Q o) (M : Mon G G1) : PostG z G1 Q o := by
  cases o with
  | ok p env S => exact fun σ' G' m a => h σ' G' (M.trans m) a
  | raise c w env S => exact fun σ' => (h σ').later M
  | bad => exact h
theorem lwG {z : Zx} {Q : St → Hp → Prop} : Lw z (fun G o => PostG z G Q o) := ⟨fun _ _ _ h m => h.later m, fun _ _ _ _ _ h => h, fun _ h => h⟩
def RG (z : Zx) (d : PV → Cd Unit) : TG := fun v σ H Q => ∃ G env S p, G.H = H ∧ At z.K z.G0 G S env σ ∧ Rep z.K G p v ∧ PostG z G Q (d p env S)
def RGs (z : Zx) (d : List PV → Cd Unit) : TGs := fun vs σ H Q => ∃ G env S ps, G.H = H ∧ At z.K z.G0 G S env σ ∧ RepL z.K G ps vs ∧ PostG z G Q (d ps env S)
theorem toG {z : Zx} {β : Type} {F : Wd → Out β → Prop} {G : Wd} {env : Env} {S : Stt} {σ : St} (L : Lw z F) {d : PV → Cd Unit} {p : PV} {v : V} {k : Unit → Cd β} {R : St → Hp → Prop} (A : At z.K z.G0 G S env σ) (r : Rep z.K G p v) (P : F G (bnd (d p) k env S))
    (h : ∀ env1 S1 σ1 G1, Mon G G1 → At z.K z.G0 G1 S1 env1 σ1 → F G1 (k () env1 S1) → R σ1 G1.H) : RG z d v σ G.H R := by
  refine ⟨G, env, S, p, rfl, A, r, ?_⟩
  unfold bnd at P
  cases e : d p env S with
  | ok u env1 S1 =>
    rw [e] at P
    exact fun σ1 G1 m a => h env1 S1 σ1 G1 m a (L.later _ _ _ P m)
  | raise c w env1 S1 =>
    rw [e] at P
    exact L.rais _ _ _ _ _ P
  | bad =>
    rw [e] at P
    exact (L.bad _ P).elim
section
variable {X : Cx} {z : Zx} {pos : Pos}
abbrev MG (X : Cx) (z : Zx) (e : Expr) (d : PV → Cd Unit) : Prop := PG X e (RG z d)
abbrev MGs (X : Cx) (z : Zx) (e : List Expr) (d : List PV → Cd Unit) : Prop := PGs X e (RGs z d)
theorem _root_.L2.PG.imp {e : Expr} {t t' : TG} (h : PG X e t) (i : ∀ v σ H Q, t' v σ H Q → t v σ H Q) : PG X e t' := ⟨fun pins s σ H v u Q I r q => h.run pins s σ H v u Q I r (i v σ H Q q)⟩
theorem _root_.L2.PGs.imp {e : List Expr} {t t' : TGs} (h : PGs X e t) (i : ∀ v σ H Q, t' v σ H Q → t v σ H Q) : PGs X e t' := ⟨fun pins s σ H v u Q I r q => h.run pins s σ H v u Q I r (i v σ H Q q)⟩
def gSet (i : Nat) : PV → Cd Unit := fun p e s => .ok () (e.set i (.val p)) s
theorem mg_name (i : Nat) {x : Str} (hN : X.N.Nodup) (hi : X.N[i]? = some x := by rfl) (hx : Loc X.env.scope x := by first | exact Or.inl rfl | exact Or.inr rfl) (hf : X.fn x = true ∨ X.env.scope.names.lookup x = some .local := by first | exact .inl rfl | exact .inr rfl | assumption) : MG X z (.Name x pos) (gSet i) :=
  (pg_name hN hi hx hf).imp fun v σ H Q ⟨G, env, S, p, e, A, r, P⟩ => by
    subst e
    exact P _ G (Mon.refl G) (A.setVal r)
def gsNil : List PV → Cd Unit := fun ps => match ps with
  | [] => ret ()
  | _ => fun _ _ => .bad
def gsCons (g : PV → Cd Unit) (gs : List PV → Cd Unit) : List PV → Cd Unit := fun ps => match ps with
  | [] => fun _ _ => .bad
  | p :: r => bnd (g p) fun _ => gs r
theorem mgs_nil : MGs X z [] gsNil := pgs_nil.imp fun vs σ H Q ⟨G, env, S, ps, e, A, r, P⟩ => by
  subst e
  cases r with
  | nil => exact ⟨rfl, P σ G (Mon.refl G) A⟩
  | cons _ _ => exact P.elim
theorem mgs_cons {e : Expr} {es : List Expr} {g : PV → Cd Unit} {gs : List PV → Cd Unit} (h : MG X z e g) (hr : MGs X z es gs) (hs : (assignEach (e :: es) X.env).map (·.2) = assign e X.env :: (assignEach es X.env).map (·.2) := by rfl) : MGs X z (e :: es) (gsCons g gs) :=
  (pgs_cons h hr hs).imp fun vs σ H Q ⟨G, env, S, ps, e, A, r, P⟩ => by
    subst e
    cases r with
    | nil => exact P.elim
    | cons r0 rr => exact ⟨_, _, rfl, toG lwG A r0 P fun env1 S1 σ1 G1 m1 A1 P1 => ⟨G1, env1, S1, _, rfl, A1, rr.mon m1, P1⟩⟩
def gTupD (n : Nat) (gs : List PV → Cd Unit) : PV → Cd Unit := fun p => match p with
  | .tup ps => if ps.length = n then gs ps else fun _ _ => .bad
  | .tuz ps => if ps.length = n then gs ps else fun _ _ => .bad
  | _ => fun _ _ => .bad
theorem mg_tup {es : List Expr} {k : Nat} {gs : List PV → Cd Unit} {n : Nat} (h : MGs X z es gs) (hK : z.K = X.K := by rfl) (hc : X.calm = true := by rfl) (hn : (assignEach es X.env).length = n := by rfl) (hst : (assignEach es X.env).findIdx? (·.1) = none := by rfl) : MG X z (.Tuple es k pos) (gTupD n gs) :=
  (pg_tup hc h hn hst).imp fun v σ H Q ⟨G, env, S, p, e, A, r, P⟩ => by
    subst e
    cases p with
    | tup ps =>
      obtain ⟨a, vs, rfl, q, rr⟩ := r.sqT
      unfold gTupD at P
      by_cases hl : ps.length = n
      · simp only [if_pos hl] at P
        exact ⟨a, vs, rfl, by rw [← hK]; exact q, by rw [← rr.length]; exact hl, G, env, S, ps, rfl, A, rr, P⟩
      · simp only [if_neg hl] at P
        exact P.elim
    | tuz ps =>
      obtain ⟨a, vs, rfl, q, rr⟩ := r.sqZ
      unfold gTupD at P
      by_cases hl : ps.length = n
      · simp only [if_pos hl] at P
        exact ⟨a, vs, rfl, by rw [← hK]; exact q, by rw [← rr.length]; exact hl, G, env, S, ps, rfl, A, rr, P⟩
      · simp only [if_neg hl] at P
        exact P.elim
    | _ => exact P.elim
end
/-! ### statements -/
section
variable {X : Cx} {z : Zx} {pos pos' : Pos}
abbrev MS (X : Cx) (z : Zx) (st : Stmt) (d : Cd Flw) : Prop := PS X st (RS z d)
abbrev MSs (X : Cx) (z : Zx) (st : List Stmt) (d : Cd Flw) : Prop := PSs X st (RS z d)
def nxt : Cd Flw := ret .next
/-- d, then (if it goes on) r -/
def dSeq (d r : Cd Flw) : Cd Flw := bnd d fun f => match f with
  | .next => r
  | f => ret f
theorem mss_nil : MSs X z [] nxt := PSs.imp pss_nil fun D σ H ⟨G, env, S, e, A, P⟩ => by
  subst e
  exact P σ G (Mon.refl G) A
theorem mss_one {st : Stmt} {d : Cd Flw} (h : MS X z st d) : MSs X z [st] d := pss_one h
theorem toS {β : Type} {z : Zx} {F : Wd → Out β → Prop} {G : Wd} {env : Env} {S : Stt} {σ : St} (L : Lw z F) {d : Cd Flw} {k : Flw → Cd β} {D : Ends} (A : At z.K z.G0 G S env σ) (P : F G (bnd d k env S))
    (hn : ∀ env1 S1 σ1 G1, Mon G G1 → At z.K z.G0 G1 S1 env1 σ1 → F G1 (k .next env1 S1) → D.nx σ1 G1.H)
    (hb : ∀ env1 S1 σ1 G1, Mon G G1 → At z.K z.G0 G1 S1 env1 σ1 → F G1 (k .brk env1 S1) → D.bk σ1 G1.H)
    (hc : ∀ env1 S1 σ1 G1, Mon G G1 → At z.K z.G0 G1 S1 env1 σ1 → F G1 (k .cont env1 S1) → D.ct σ1 G1.H)
    (hr : ∀ p v env1 S1 σ1 G1, Mon G G1 → At z.K z.G0 G1 S1 env1 σ1 → Rep z.K G1 p v → F G1 (k (.ret p) env1 S1) → D.rt v G1.H) : RS z d D σ G.H := by
  refine ⟨G, env, S, rfl, A, ?_⟩
  unfold bnd at P
  cases e : d env S with
  | ok f env1 S1 =>
    rw [e] at P
    cases f with
    | next => exact fun σ1 G1 m a => hn env1 S1 σ1 G1 m a (L.later _ _ _ P m)
    | brk => exact fun σ1 G1 m a => hb env1 S1 σ1 G1 m a (L.later _ _ _ P m)
    | cont => exact fun σ1 G1 m a => hc env1 S1 σ1 G1 m a (L.later _ _ _ P m)
    | ret p => exact fun v σ1 G1 m a r => hr p v env1 S1 σ1 G1 m a r (L.later _ _ _ P m)
  | raise c w env1 S1 =>
    rw [e] at P
    exact L.rais _ _ _ _ _ P
  | bad =>
    rw [e] at P
    exact (L.bad _ P).elim
theorem mss_cons {st : Stmt} {rest : List Stmt} {d r : Cd Flw} (h : MS X z st d) (hr : MSs X z rest r) : MSs X z (st :: rest) (dSeq d r) :=
  PSs.imp (pss_cons h hr) fun D σ H ⟨G, env, S, e, A, P⟩ => by
    subst e
    exact toS lwS (D := { D with nx := RS z r D }) A P (fun env1 S1 σ1 G1 m A1 P1 => ⟨G1, env1, S1, rfl, A1, P1⟩) (fun env1 S1 σ1 G1 m A1 P1 => P1 σ1 G1 (Mon.refl _) A1) (fun env1 S1 σ1 G1 m A1 P1 => P1 σ1 G1 (Mon.refl _) A1)
      (fun p v env1 S1 σ1 G1 m A1 r1 P1 => P1 v σ1 G1 (Mon.refl _) A1 r1)
variable {e : Expr} {d : Cd PV}
def dDrop (d : Cd PV) : Cd Flw := bnd d fun _ => nxt
theorem ms_expr (he : ME X z e d) (hs : swapsWith e none pos.line X.env = pure false := by rfl) : MS X z (.Expr e pos) (dDrop d) := PS.imp (ps_expr he hs) fun D σ H ⟨G, env, S, e, A, P⟩ => by
  subst e
  exact toE lwS A P fun p env1 S1 v G1 m1 A1 r1 P1 => P1 σ G1 (Mon.refl _) A1
def dRet (d : Cd PV) : Cd Flw := bnd d fun p => ret (.ret p)
theorem ms_ret (he : ME X z e d) : MS X z (.Return (some e) pos) (dRet d) := PS.imp (ps_ret he) fun D σ H ⟨G, env, S, e, A, P⟩ => by
  subst e
  exact toE lwS A P fun p env1 S1 v G1 m1 A1 r1 P1 => P1 v σ G1 (Mon.refl _) A1 r1
def dIf (t : Cd Bool) (a b : Cd Flw) : Cd Flw := bnd t fun k => if k = true then a else b
theorem ms_if {c : Expr} {a b : List Stmt} {t : Cd Bool} {da db : Cd Flw} (hc : MT X z c t) (ha : MSs X z a da) (hb : MSs X z b db) : MS X z (.If c a b pos) (dIf t da db) := PS.imp (ps_if hc ha hb) fun D σ H ⟨G, env, S, e, A, P⟩ => by
  subst e
  refine toT lwS A P fun k env1 S1 G1 m1 A1 P1 => ?_
  cases k with
  | true => exact ⟨G1, env1, S1, rfl, A1, P1⟩
  | false => exact ⟨G1, env1, S1, rfl, A1, P1⟩
/-- target = e -/
def dAsg (d : Cd PV) (g : PV → Cd Unit) : Cd Flw := bnd d fun p => bnd (g p) fun _ => nxt
theorem ms_asg {tg : Expr} {g : PV → Cd Unit} (he : ME X z e d) (hg : MG X z tg g) (hs : swapsWithSole [tg] e pos.line X.env = pure false := by rfl) (hw : swappedStores [tg] e X.env = pure none := by rfl)
    (h1 : (assignEach [tg] X.env).map (·.2) = [assign tg X.env] := by rfl) : MS X z (.Assign [tg] e pos) (dAsg d g) := PS.imp (ps_asg he hg hs hw h1) fun D σ H ⟨G, env, S, e, A, P⟩ => by
  subst e
  exact toE lwS A P fun p env1 S1 v G1 m1 A1 r1 P1 => toG lwS A1 r1 P1 fun env2 S2 σ2 G2 m2 A2 P2 => P2 σ2 G2 (Mon.refl _) A2
/-- name = e -/
def dSet (i : Nat) (d : Cd PV) : Cd Flw := bnd d fun p => fun e s => .ok .next (e.set i (.val p)) s
theorem ms_set (i : Nat) {x : Str} (hN : X.N.Nodup) (he : ME X z e d) (hi : X.N[i]? = some x := by rfl) (hx : Loc X.env.scope x := by first | exact Or.inl rfl | exact Or.inr rfl) (hs : swapsWith e (some (.Name x pos')) pos.line X.env = pure false := by rfl)
    (hf : X.fn x = true ∨ X.env.scope.names.lookup x = some .local := by first | exact .inl rfl | exact .inr rfl | assumption) : MS X z (.Assign [.Name x pos'] e pos) (dSet i d) := PS.imp (ps_set hN hi hx he hs hf) fun D σ H ⟨G, env, S, e, A, P⟩ => by
  subst e
  exact toE lwS A P fun p env1 S1 v G1 m1 A1 r1 P1 => P1 _ G1 (Mon.refl _) (A1.setVal r1)
/-- name = a new list that the name alone holds -/
def dOwn (i : Nat) (d : Cd (List PV)) : Cd Flw := bnd d fun xs => fun e s => .ok .next (e.set i (.own xs)) s
theorem ms_own (i : Nat) {x : Str} {d : Cd (List PV)} (hN : X.N.Nodup) (he : MF X z e d) (hi : X.N[i]? = some x := by rfl) (hx : Loc X.env.scope x := by first | exact Or.inl rfl | exact Or.inr rfl) (hs : swapsWith e (some (.Name x pos')) pos.line X.env = pure false := by rfl)
    (hf : X.fn x = true ∨ X.env.scope.names.lookup x = some .local := by first | exact .inl rfl | exact .inr rfl | assumption) : MS X z (.Assign [.Name x pos'] e pos) (dOwn i d) := PS.imp (ps_set hN hi hx he hs hf) fun D σ H ⟨G, env, S, e, A, P⟩ => by
  subst e
  exact toF lwS A P fun xs env1 S1 a vs G1 m1 A1 r1 al P1 => P1 _ G1 (Mon.refl _) (A1.setOwn r1 al)
/-- a, b = e1, e2 -/
def dPar (i j : Nat) (d : Cd (List PV)) : Cd Flw := bnd d fun ps => match ps with
  | [p, q] => fun e s => .ok .next ((e.set i (.val p)).set j (.val q)) s
  | _ => fun _ _ => .bad
theorem ms_par (i j : Nat) {x y : Str} {a b : Expr} {d : Cd (List PV)} {px py pt : Pos} {kt k2 pt2} (hN : X.N.Nodup) (ha : MA X z [a, b] d) (hij : i ≠ j := by decide) (hc : X.calm = true := by rfl) (hi : X.N[i]? = some x := by rfl) (hj : X.N[j]? = some y := by rfl)
    (hx : X.env.scope.names.lookup x = some .local := by rfl) (hy : X.env.scope.names.lookup y = some .local := by rfl)
    (hw : swappedStores [.Tuple [.Name x px, .Name y py] kt pt] (.Tuple [a, b] k2 pt2) X.env = pure (some [x, y]) := by rfl)
    (hs : swapsWithSole [.Tuple [.Name x px, .Name y py] kt pt] (.Tuple [a, b] k2 pt2) pos.line X.env = pure false := by rfl) :
    MS X z (.Assign [.Tuple [.Name x px, .Name y py] kt pt] (.Tuple [a, b] k2 pt2) pos) (dPar i j d) := PS.imp (ps_par hc hN hi hj hij hx hy ha hw hs) fun D σ H ⟨G, env, S, e, A, P⟩ => by
  subst e
  refine toA lwS A P fun ps env1 S1 vs G1 m1 A1 r1 P1 => ?_
  cases r1 with
  | nil => exact P1.elim
  | cons r0 rr =>
    cases rr with
    | nil => exact P1.elim
    | cons r2 rr =>
      cases rr with
      | cons _ _ => exact P1.elim
      | nil => exact ⟨_, _, rfl, P1 _ G1 (Mon.refl _) ((A1.setVal r0).setVal r2)⟩
/-! ### for -/
/-- J walks ps, as long as the frozen things stand -/
structure Enum (K : PySem.W.Frag) (J : It) (G : Wd) (ps : List PV) : Prop where
  stop : ∀ i G1, Mon G G1 → ps.length ≤ i → J.stop i G1.H
  go : ∀ (i : Nat) (p : PV) (G1 : Wd), Mon G G1 → Sure G1 → ps[i]? = some p → J.go i G1.H ∧ ∀ x H', J.yld i G1.H x H' → ∃ G2, G2.H = H' ∧ Ext G1 G2 ∧ Sure G2 ∧ Rep K G2 p x
def PostI (z : Zx) (G : Wd) (σ : St) (R : It → Hp → Prop) : Out (List PV) → Prop
  | .ok ps env S => ∀ (J : It) (G' : Wd), Mon G G' → At z.K z.G0 G' S env σ → Enum z.K J G' ps → R J G'.H
  | .raise c w env S => ∀ σ', PRaise z G c w env S σ'
  | .bad => False
theorem PostI.later {z : Zx} {G G1 : Wd} {σ : St} {R : It → Hp → Prop} {o : Out (List PV)} (h : PostI z G σ R o) (M : Mon G G1) : PostI z G1 σ R o := by
  cases o with
  | ok p env S => exact fun J G' m => h J G' (M.trans m)
  | raise c w env S => exact fun σ' => (h σ').later M
  | bad => exact h
theorem lwI {z : Zx} {σ : St} {R : It → Hp → Prop} : Lw z (fun G o => PostI z G σ R o) := ⟨fun _ _ _ h m => h.later m, fun _ _ _ _ _ h => h, fun _ h => h⟩
def RI (z : Zx) (d : Cd (List PV)) : TI := fun σ H R => ∃ G env S, G.H = H ∧ At z.K z.G0 G S env σ ∧ PostI z G σ R (d env S)
abbrev MI (X : Cx) (z : Zx) (tg e : Expr) (d : Cd (List PV)) : Prop := PI X tg e (RI z d)
theorem _root_.L2.PI.imp {tg e : Expr} {t t' : TI} (h : PI X tg e t) (i : ∀ σ H R, t' σ H R → t σ H R) : PI X tg e t' := ⟨fun pins s σ H R I q => h.run pins s σ H R I (i σ H R q)⟩
theorem _root_.L2.PI.or {tg e : Expr} {t t' : TI} (h : PI X tg e t) (h' : PI X tg e t') : PI X tg e (fun σ H R => t σ H R ∨ t' σ H R) := ⟨fun pins s σ H R I q => q.elim (h.run pins s σ H R I) (h'.run pins s σ H R I)⟩
theorem toI {β : Type} {z : Zx} {F : Wd → Out β → Prop} {G : Wd} {env : Env} {S : Stt} {σ : St} (L : Lw z F) {d : Cd (List PV)} {k : List PV → Cd β} {R : It → Hp → Prop} (A : At z.K z.G0 G S env σ) (P : F G (bnd d k env S))
    (h : ∀ ps env1 S1 J G1, Mon G G1 → At z.K z.G0 G1 S1 env1 σ → Enum z.K J G1 ps → F G1 (k ps env1 S1) → R J G1.H) : RI z d σ G.H R := by
  refine ⟨G, env, S, rfl, A, ?_⟩
  unfold bnd at P
  cases e : d env S with
  | ok ps env1 S1 =>
    rw [e] at P
    exact fun J G1 m a en => h ps env1 S1 J G1 m a en (L.later _ _ _ P m)
  | raise c w env1 S1 =>
    rw [e] at P
    exact L.rais _ _ _ _ _ P
  | bad =>
    rw [e] at P
    exact (L.bad _ P).elim
def dForL (g : PV → Cd Unit) (b : Cd Flw) : List PV → Cd Flw
  | [] => nxt
  | p :: ps => bnd (g p) fun _ => bnd b fun f => match f with
    | .next => dForL g b ps
    | .cont => dForL g b ps
    | .brk => nxt
    | .ret v => ret (.ret v)
def dFor (d : Cd (List PV)) (g : PV → Cd Unit) (b : Cd Flw) : Cd Flw := bnd d (dForL g b)
theorem for_go {J : It} {G0 : Wd} {ps : List PV} {g : PV → Cd Unit} {b : Cd Flw} {D : Ends} (en : Enum z.K J G0 ps) {σ : St} {env : Env} {S : Stt} (A : At z.K z.G0 G0 S env σ) (P : PostS z G0 D (dForL g b ps env S)) :
    ∃ W : Nat → Nat → St → Hp → Prop, (∃ m, W 0 m σ G0.H) ∧ ∀ i m σ H, W i m σ H →
      (J.stop i H ∧ D.nx σ H) ∨ (J.go i H ∧ ∃ N : St → Hp → Prop, (∀ σ' H', N σ' H' → ∃ m', m' < m ∧ W (i + 1) m' σ' H') ∧ ∀ x H', J.yld i H x H' → RG z g x σ H' fun σ2 H2 => RS z b { D with nx := N, ct := N, bk := D.nx } σ2 H2) := by
  refine ⟨fun i m σ H => m = ps.length - i ∧ i ≤ ps.length ∧ ∃ G1 env S, G1.H = H ∧ Mon G0 G1 ∧ At z.K z.G0 G1 S env σ ∧ PostS z G1 D (dForL g b (ps.drop i) env S), ⟨ps.length, by simp, Nat.zero_le _, G0, env, S, rfl, Mon.refl _, A, by simpa using P⟩, ?_⟩
  rintro i m σ H ⟨rfl, hi, G1, env, S, rfl, M, A, P⟩
  by_cases hl : i < ps.length
  · have e : ps.drop i = ps[i] :: ps.drop (i + 1) := List.drop_eq_getElem_cons hl
    rw [e] at P
    obtain ⟨q1, q2⟩ := en.go i ps[i] G1 M A.sure (by simp [hl])
    refine .inr ⟨q1, fun σ' H' => ∃ G1 env S, G1.H = H' ∧ Mon G0 G1 ∧ At z.K z.G0 G1 S env σ' ∧ PostS z G1 D (dForL g b (ps.drop (i + 1)) env S), fun σ' H' h => ⟨ps.length - (i + 1), by omega, rfl, hl, h⟩, fun x H' y => ?_⟩
    obtain ⟨G2, rfl, x2, s2, r2⟩ := q2 x H' y
    have m2 := x2.mon A.sure
    refine toG lwS (A.ext x2 s2) r2 (P.later m2) fun env3 S3 σ3 G3 m3 A3 P3 => ?_
    refine toS lwS A3 P3 (fun env4 S4 σ4 G4 m4 A4 P4 => ?_) (fun env4 S4 σ4 G4 m4 A4 P4 => P4 σ4 G4 (Mon.refl _) A4) (fun env4 S4 σ4 G4 m4 A4 P4 => ?_) fun p v env4 S4 σ4 G4 m4 A4 r4 P4 => P4 v σ4 G4 (Mon.refl _) A4 r4
    · exact ⟨G4, env4, S4, rfl, ((M.trans m2).trans m3).trans m4, A4, P4⟩
    · exact ⟨G4, env4, S4, rfl, ((M.trans m2).trans m3).trans m4, A4, P4⟩
  · have e : ps.drop i = [] := List.drop_eq_nil_of_le (by omega)
    rw [e] at P
    exact .inl ⟨en.stop i G1 M (by omega), P σ G1 (Mon.refl _) A⟩
theorem ms_for {tg iter : Expr} {body : List Stmt} {d : Cd (List PV)} {g : PV → Cd Unit} {b : Cd Flw} (hp : PassesOwn (model X.prog X.w) X.A X.env X.xe) (hi : MI X z tg iter d) (hg : MG X z tg g) (hb : MSs X z body b) (hc : X.calm = true := by rfl)
    (hs : ∀ x, foldedSetIterable iter X.env x = pure x := by intro _; rfl) : MS X z (.For tg iter body [] pos) (dFor d g b) := PS.imp (ps_for hp hc hi hg hb hs) fun D σ H ⟨G, env, S, e, A, P⟩ => by
  subst e
  exact toI lwS A P fun ps env1 S1 J G1 m1 A1 en P1 => for_go en A1 P1
/-! ### while -/
def iterW (c : Cd Bool) (b : Cd Flw) : Nat → Cd Flw
  | 0 => fun _ _ => .bad
  | n + 1 => bnd c fun k => if k = true then bnd b fun f => match f with
    | .next => iterW c b n
    | .cont => iterW c b n
    | .brk => nxt
    | .ret v => ret (.ret v)
    else nxt
theorem iterW_succ (c : Cd Bool) (b : Cd Flw) : ∀ (n : Nat) (e : Env) (s : Stt), iterW c b n e s ≠ .bad → iterW c b (n + 1) e s = iterW c b n e s
  | 0, _, _, h => absurd rfl h
  | n + 1, e, s, h => by
    have ih := iterW_succ c b n
    generalize hm : n + 1 = m at ih
    unfold iterW
    subst hm
    show bnd c _ e s = bnd c _ e s
    unfold iterW at h
    unfold bnd at h ⊢
    cases hc : c e s with
    | raise => rfl
    | bad => rfl
    | ok k e1 s1 =>
      rw [hc] at h
      simp only [Out.bind] at h ⊢
      cases k with
      | false => rfl
      | true =>
        simp only [if_true] at h ⊢
        cases hb : b e1 s1 with
        | raise => rfl
        | bad => rfl
        | ok f e2 s2 =>
          rw [hb] at h
          cases f with
          | next => exact ih e2 s2 h
          | cont => exact ih e2 s2 h
          | brk => rfl
          | ret v => rfl
theorem iterW_le (c : Cd Bool) (b : Cd Flw) {n : Nat} {e : Env} {s : Stt} (h : iterW c b n e s ≠ .bad) : ∀ {m : Nat}, n ≤ m → iterW c b m e s = iterW c b n e s := by
  intro m hm
  induction hm with
  | refl => rfl
  | step _ ih => rw [iterW_succ _ _ _ _ _ (by rw [ih]; exact h), ih]
open Classical in
noncomputable def dWhile (c : Cd Bool) (b : Cd Flw) : Cd Flw := fun e s => if h : ∃ n, iterW c b n e s ≠ .bad then iterW c b (Classical.choose h) e s else .bad
theorem dWhile_of {c : Cd Bool} {b : Cd Flw} {n : Nat} {e : Env} {s : Stt} {r : Out Flw} (h : iterW c b n e s = r) (hr : r ≠ .bad) : dWhile c b e s = r := by
  have hx : ∃ n, iterW c b n e s ≠ .bad := ⟨n, by rw [h]; exact hr⟩
  unfold dWhile
  rw [dif_pos hx]
  have h1 := Classical.choose_spec hx
  rcases Nat.le_total n (Classical.choose hx) with q | q
  · rw [iterW_le c b (by rw [h]; exact hr) q, h]
  · rw [← iterW_le c b h1 q, h]
theorem dWhile_some {c : Cd Bool} {b : Cd Flw} {e : Env} {s : Stt} : dWhile c b e s = .bad ∨ ∃ n, dWhile c b e s = iterW c b n e s := by
  unfold dWhile
  by_cases h : ∃ n, iterW c b n e s ≠ .bad
  · rw [dif_pos h]
    exact .inr ⟨_, rfl⟩
  · rw [dif_neg h]
    exact .inl rfl
theorem ms_while {c : Expr} {body : List Stmt} {t : Cd Bool} {b : Cd Flw} (hp : PassesOwn (model X.prog X.w) X.A X.env X.xe) (hc : MT X z c t) (hb : MSs X z body b) : MS X z (.While c body [] pos) (dWhile t b) := PS.imp (ps_while hp hc hb) fun D σ H ⟨G, env, S, e, A, P⟩ => by
  subst e
  rcases dWhile_some (c := t) (b := b) (e := env) (s := S) with e | ⟨n, e⟩
  · rw [e] at P; exact P.elim
  · rw [e] at P
    refine ⟨fun m σ H => ∃ G env S, G.H = H ∧ At z.K z.G0 G S env σ ∧ PostS z G D (iterW t b m env S), ⟨n, G, env, S, rfl, A, P⟩, ?_⟩
    rintro m σ H ⟨G, env, S, rfl, A, P⟩
    cases m with
    | zero => exact P.elim
    | succ m =>
      unfold iterW at P
      refine toT lwS A P fun k env1 S1 G1 m1 A1 P1 => ?_
      cases k with
      | false => exact P1 σ G1 (Mon.refl _) A1
      | true =>
        rw [if_pos rfl] at P1 ⊢
        refine ⟨fun σ H => ∃ G env S, G.H = H ∧ At z.K z.G0 G S env σ ∧ PostS z G D (iterW t b m env S), fun σ' H' h => ⟨m, Nat.lt_succ_self _, h⟩, ?_⟩
        exact toS lwS A1 P1 (fun env4 S4 σ4 G4 m4 A4 P4 => ⟨G4, env4, S4, rfl, A4, P4⟩) (fun env4 S4 σ4 G4 m4 A4 P4 => P4 σ4 G4 (Mon.refl _) A4) (fun env4 S4 σ4 G4 m4 A4 P4 => ⟨G4, env4, S4, rfl, A4, P4⟩)
          fun p v env4 S4 σ4 G4 m4 A4 r4 P4 => P4 v σ4 G4 (Mon.refl _) A4 r4
end
end FS
set_option Elab.async false
set_option linter.all false
set_option maxRecDepth 100000
/-! FsDef: defs, calls, raise. -/
namespace FS
open PySem PySem.Spec L2
inductive Res where
  | ok (p : PV) (s : Stt)
  | raise (c : Str) (w : PV) (s : Stt)
  | bad
def PostD (K : PySem.W.Frag) (mg : Str → Option Value) (G : Wd) (Q : VK) (E : XK) : Res → Prop
  | .ok p S => ∀ (v : V) (G' : Wd), Ent G G' → Mon G G' → RepS K G' S → Sure G' → Rep K G' p v → Q v G'.H
  | .raise c w S => ∀ (cls : Value) (d : Addr) (v : V) (G' : Wd), Ent G G' → Mon G G' → RepS K G' S → Sure G' → mg c = some cls → Nu G.H d → G'.H d = some (.xd [(("what" : Str), v)]) → Rep K G' w v → E cls (some d) G'.H
  | .bad => False
/-- the promise of a def: it does what den says -/
def spD (K : PySem.W.Frag) (mg : Str → Option Value) (n : Nat) (den : List PV → Stt → Res) : Sp := fun vs H Q E =>
  ∃ G ps S, G.H = H ∧ RepL K G ps vs ∧ RepS K G S ∧ Sure G ∧ vs.length = n ∧ PostD K mg G Q E (den ps S)
/-- a body's value -/
def fin : Out Flw → Res
  | .ok .next _ s => .ok .non s
  | .ok (.ret p) _ s => .ok p s
  | .raise c w _ s => .raise c w s
  | _ => .bad
/-- a def of n names, k of them parameters -/
def runD (n k : Nat) (d : Cd Flw) (ps : List PV) (S : Stt) : Res := if ps.length = k then fin (d (ps.map Slot.val ++ List.replicate (n - k) Slot.none) S) else .bad
section
variable {K : PySem.W.Frag}
theorem start_rep {G : Wd} {S : Stt} {ps : List PV} {vs : List V} {N : List Str} (r : RepL K G ps vs) (s : RepS K G S) (su : Sure G) :
    At K G G S (ps.map Slot.val ++ List.replicate (N.length - ps.length) Slot.none) (L2.start N vs) := by
  have hl := r.length
  have no : ∀ (i : Nat) (xs : List PV), (ps.map Slot.val ++ List.replicate (N.length - ps.length) Slot.none)[i]? ≠ some (.own xs) := fun i xs e => by
    by_cases hi : i < ps.length
    · rw [List.getElem?_append_left (by simpa using hi), List.getElem?_map] at e
      cases q : ps[i]? with
      | none => rw [q] at e; cases e
      | some p => rw [q] at e; cases e
    · rw [List.getElem?_append_right (by simpa using hi)] at e
      have := List.mem_of_getElem? e
      have := List.eq_of_mem_replicate this
      cases this
  have no2 : ∀ (i : Nat) (a d : Addr) (w : PV), (ps.map Slot.val ++ List.replicate (N.length - ps.length) Slot.none)[i]? ≠ some (.exc a d w) := fun i a d w e => by
    by_cases hi : i < ps.length
    · rw [List.getElem?_append_left (by simpa using hi), List.getElem?_map] at e
      cases q : ps[i]? with
      | none => rw [q] at e; cases e
      | some p => rw [q] at e; cases e
    · rw [List.getElem?_append_right (by simpa using hi)] at e
      have := List.mem_of_getElem? e
      have := List.eq_of_mem_replicate this
      cases this
  refine ⟨s, ⟨?_, fun i p e => ?_, fun i xs e => absurd e (no i xs), fun i a d w e => absurd e (no2 i a d w), fun i j a h => absurd h.choose_spec (no i _)⟩, .refl G, fun i a h => absurd h.choose_spec (no i _), su⟩
  · unfold L2.start
    simp [hl]
  · by_cases hi : i < ps.length
    · rw [List.getElem?_append_left (by simpa using hi), List.getElem?_map] at e
      cases q : ps[i]? with
      | none => rw [q] at e; cases e
      | some p' =>
        rw [q] at e
        have e' := Option.some.inj e
        cases e'
        obtain ⟨v, e1, r1⟩ := r.get q
        refine ⟨v, ?_, r1⟩
        unfold L2.start
        rw [List.getElem?_append_left (by simpa [← hl] using hi), List.getElem?_map, e1]
        rfl
    · rw [List.getElem?_append_right (by simpa using hi)] at e
      have := List.mem_of_getElem? e
      have := List.eq_of_mem_replicate this
      cases this
end
section
variable {P : Program} {w : World} {K : PySem.W.Frag} {mg : Str → Option Value} {base : Heap}
/-- the surroundings of a def's body -/
abbrev zOf (K : PySem.W.Frag) (mg : Str → Option Value) (G : Wd) (E : XK) : Zx := ⟨K, mg, G, fun cls d _ H => E cls d H⟩
/-- THE RULE for a def -/
theorem def_ok {x qual : Str} {st : Stmt} {f : Addr} {fd : FuncData} {N ps : List Str} {k : Nat} {d : Cd Flw} (F : Fun K x qual st f fd) (S : FnScope N ps (defScope st))
    (hbody : ∀ (cdv : Value) (A : Around) (outer : List PySem.Env) (s : Shared) (H : Hp) (E : XK) (G : Wd), Room k (A.deeper (PyProof.Rows.envOfC qual (defScope st) s.heap.objs.size f cdv)) →
      MSs (cxOf (L2.CX P w) P w K mg base N qual (defScope st) f cdv A outer s H E) (zOf K mg G E) (defBody st) d) :
    FnOk P w K mg base (L2.CX P w) (k + 1) f fd ps (spD K mg ps.length (runD N.length ps.length d)) := by
  refine F.okX S (fun vs H Q E h => ?_) fun cdv A outer s H vs Q E hr h => ?_
  · obtain ⟨_, _, _, _, _, _, _, e, _⟩ := h
    exact e
  · obtain ⟨G, qs, S', e, r, rs, su, hl, hp⟩ := h
    subst e
    refine ⟨_, hbody cdv A outer s _ E G hr, G, qs.map Slot.val ++ List.replicate (N.length - qs.length) Slot.none, S', rfl, start_rep r rs su, ?_⟩
    have hq : qs.length = ps.length := by rw [r.length, hl]
    unfold runD at hp
    rw [if_pos hq, ← hq] at hp
    cases e : d (qs.map Slot.val ++ List.replicate (N.length - qs.length) Slot.none) S' with
    | bad => rw [e] at hp; exact hp.elim
    | raise c w' e1 s1 =>
      rw [e] at hp
      exact fun σ' G' cls dd v m A1 h1 h0 h2 h3 => hp cls dd v G' A1.ent m A1.st A1.sure h1 h0 h2 h3
    | ok f e1 s1 =>
      rw [e] at hp
      cases f with
      | next => exact fun σ' G' m A1 => hp .non G' A1.ent m A1.st A1.sure .non
      | ret p => exact fun v σ' G' m A1 r1 => hp v G' A1.ent m A1.st A1.sure r1
      | brk => exact hp.elim
      | cont => exact hp.elim
/-- a def of the module, by its name -/
structure Df (P : Program) (w : World) (K : PySem.W.Frag) (mg : Str → Option Value) (base : Heap) (k : Nat) (x : Str) (n : Nat) (den : List PV → Stt → Res) : Prop where
  ex : ∃ (f : Addr) (fd : FuncData) (ps : List Str), FnOk P w K mg base (L2.CX P w) k f fd ps (spD K mg n den) ∧ mg x = some (.ref f) ∧ PySem.W.keepIn K (.ref f) = true ∧ Binds K fd ps []
end
/-! ### calls -/
section
variable {X : Cx} {z : Zx} {pos p : Pos}
def dCall (n : Nat) (den : List PV → Stt → Res) (da : Cd (List PV)) : Cd PV := bnd da fun ps => if ps.length = n then fun e s => match den ps s with
  | .ok p s' => .ok p e s'
  | .raise c w s' => .raise c w e s'
  | .bad => .bad
  else fun _ _ => .bad
theorem me_call {k j n : Nat} {x : Str} {den : List PV → Stt → Res} {e : Expr} {es : List Expr} {da : Cd (List PV)} (D : Df X.prog X.w X.K X.mg X.base k x n den) (hr : Room j X.A) (tk : Takes X z.W) (ha : MA X z (e :: es) da) (hkj : k ≤ j := by decide) (hK : z.K = X.K := by rfl) (hmg : z.mg = X.mg := by rfl) (hg : Gl X x := by rfl)
    (hdb : (x == ("__debug__" : Str)) = false := by decide) (he : starEach (e :: es) X.env = (false, eval e X.env) :: starEach es X.env := by rfl) (hpl : (backTo pos (starEach es X.env)).any (·.1) = false := by rfl) :
    ME X z (.Call (.Name x p) (e :: es) [] pos) (dCall n den da) := by
  obtain ⟨f, fd, ps, F, hm, hk, hb⟩ := D.ex
  refine (pe_callSD F (hr.mono hkj) hg hm hk hb .nil (passAt tk) ha hdb he hpl).imp fun σ H Q ⟨G, env, S, e, A, P⟩ => ?_
  subst e
  refine toA lwE A P fun qs env1 S1 vs G1 m1 A1 r1 P1 => ?_
  by_cases hl : qs.length = n
  · rw [if_pos hl] at P1
    rw [List.append_nil]
    rw [← hK, ← hmg]
    refine ⟨G1, qs, S1, rfl, r1, A1.st, A1.sure, by rw [← r1.length]; exact hl, ?_⟩
    cases e : den qs S1 with
    | bad => simp only [e] at P1; exact P1.elim
    | ok p S2 =>
      simp only [e] at P1
      exact fun v G' en m s su r => P1 v G' m (A1.call en m s su) r
    | raise c w S2 =>
      simp only [e] at P1
      exact fun cls d v G' en m s su h1 h0 h2 r => P1 σ G' cls d v m (A1.call en m s su) h1 (A1.ent.there d h0) h2 r
  · rw [if_neg hl] at P1
    exact P1.elim
end
/-! ### raise -/
/-- __init__ of the base class of the errors: self.what = what -/
def spInit (K : PySem.W.Frag) : Sp := fun vs H Q _ => ∃ (a C : Addr) (v : V), vs = [.ref a, v] ∧ H a = some (exo a C none) ∧ OexC K C ∧ PySem.W.findIn K (.ref C) "what" = some none ∧
  ∀ dx, H dx = none → dx ≠ a → Q .non (upd (upd H dx (exd dx [(("what" : Str), v)])) a (exo a C (some dx)))
section
variable {P : Program} {w : World} {K : PySem.W.Frag} {mg : Str → Option Value} {base : Heap}
theorem init_ok {qual : Str} {st : Stmt} {f : Addr} {fd : FuncData} {p1 p2 p3 p4 : Pos} (F : Fun K "__init__" qual st f fd) (S : FnScope ["self", "what"] ["self", "what"] (defScope st)) (hb : defBody st = [.Assign [.Attribute (.Name "self" p1) "what" p2] (.Name "what" p3) p4])
    (hs : (defScope st).names.lookup ("self" : Str) = some .local) (hw : (defScope st).names.lookup ("what" : Str) = some .local) : FnOk P w K mg base CX0 1 f fd ["self", "what"] (spInit K) := by
  refine F.ok S (fun vs H Q E h => ?_) fun cdv A outer s H vs Q E hr h => ?_
  · obtain ⟨a, C, v, rfl, _⟩ := h
    rfl
  · obtain ⟨a, C, v, rfl, ha, T, hn, k⟩ := h
    rw [hb]
    refine ⟨_, pss_one (ps_ost (pe_var (i := 0) rfl (.inl hs)) (pe_var (i := 1) rfl (.inl hw))), ?_⟩
    exact ⟨v, rfl, .ref a, rfl, a, C, rfl, T, hn, .inl ⟨ha, fun dx h1 h2 => k dx h1 h2⟩⟩
end
/-- what the written part says of an error's class -/
structure ErC (P : Program) (w : World) (K : PySem.W.Frag) (mg : Str → Option Value) (base : Heap) (c : Str) : Prop where
  ex : ∃ (C fI : Addr) (fd : FuncData) (ps : List Str), mg c = some (.ref C) ∧ OexC K C ∧ PySem.W.findIn K (.ref C) "__init__" = some (some (.ref fI)) ∧ PySem.W.typeIn K (.ref fI) = some (.type "function") ∧
    PySem.W.findIn K (.ref C) "what" = some none ∧ FnOk P w K mg base CX0 1 fI fd ps (spInit K) ∧ Binds K fd ps []
section
variable {X : Cx} {z : Zx} {pos p pos2 : Pos}
def dRaise (c : Str) (d : Cd PV) : Cd Flw := bnd d fun p => fun e s => .raise c p e s
theorem ms_raise {j : Nat} {c : Str} {e : Expr} {d : Cd PV} (T : ErC X.prog X.w X.K X.mg X.base c) (hr : Room j X.A) (tk : Takes X z.W) (he : ME X z e d) (hkj : 2 ≤ j := by decide) (hmg : z.mg = X.mg := by rfl) (hc : X.calm = true := by rfl) (hg : Gl X c := by rfl)
    (hdb : (c == ("__debug__" : Str)) = false := by decide) (hs : starEach [e] X.env = (false, eval e X.env) :: starEach [] X.env := by rfl) (hpl : (backTo pos (starEach [] X.env)).any (·.1) = false := by rfl) :
    MS X z (.Raise (some (.Call (.Name c p) [e] [] pos)) none pos2) (dRaise c d) := by
  obtain ⟨C, fI, fd, ps, gC, T, iC, tI, nw, F, b⟩ := T.ex
  refine PS.imp (ps_raise hc tk (pmk_oex T iC tI F (hr.mono hkj) b .nil pass0 hg gC (pa_cons he pa_nil hs) hdb hs hpl)) fun D σ H ⟨G, env, S, e, A, P⟩ => ?_
  subst e
  refine toE lwS A P fun p env1 S1 v G1 m1 A1 r1 P1 => ?_
  refine ⟨by show 1 ≤ 1000; decide, fun a ha => ⟨a, C, v, rfl, upd_same, T, nw, fun dx hd hne => ?_⟩⟩
  have hd1 : G1.H dx = none := by rw [upd_ne hne] at hd; exact hd
  refine ⟨rfl, dx, [(("what" : Str), v)], upd_same, ?_, hd1, ?_⟩
  · rw [upd_ne hne]
    exact upd_same
  · have eq : upd (del (upd (upd (upd G1.H a (exo a C none)) dx (exd dx [(("what" : Str), v)])) a (exo a C (some dx))) a) dx (.xd [(("what" : Str), v)]) = upd G1.H dx (.xd [(("what" : Str), v)]) := by
      funext b
      by_cases h1 : b = dx
      · rw [h1, upd_same, upd_same]
      · rw [upd_ne h1, upd_ne h1]
        by_cases h2 : b = a
        · rw [h2, del_same, ha]
        · rw [del_ne h2, upd_ne h2, upd_ne h1, upd_ne h2]
    rw [eq]
    have M : Mon G1 (G1.fresh dx (.xd [(("what" : Str), v)])) := (Ext.fresh hd1).mon A1.sure
    exact P1 σ (G1.fresh dx (.xd [(("what" : Str), v)])) (.ref C) dx v M (A1.fresh hd1) (by rw [hmg]; exact gC) (A1.ent.there dx (.inl hd1)) upd_same (r1.mon M)
end
end FS
set_option Elab.async false
set_option linter.all false
set_option maxRecDepth 100000
/-! FsOps: operators, comparisons, subscripts, slices, built-ins, walks. -/
namespace FS
open PySem PySem.Spec L2
/-! ### data -/
mutual
def PV.toD : PV → PyData
  | .non => .none
  | .bl b => .bool b
  | .int i => .int i
  | .str x => .str x
  | .tup xs => .tuple (toDs xs)
  | .tuz xs => .tuple (toDs xs)
  | .lst xs => .list (toDs xs)
  | .scr ns => .list (ns.map PyData.int)
  | .ref _ => .none
  | .raw _ => .none
def toDs : List PV → List PyData
  | [] => []
  | x :: xs => x.toD :: toDs xs
end
/-- plain data, of a bounded depth -/
def okd : Nat → PV → Bool
  | _, .non => true
  | _, .bl _ => true
  | _, .int _ => true
  | _, .str x => PyData.strOk x
  | k + 1, .tup xs => xs.all (okd k)
  | k + 1, .tuz xs => xs.all (okd k)
  | k + 1, .lst xs => xs.all (okd k)
  | _ + 1, .scr _ => true
  | _, _ => false
theorem ints_lay : ∀ ns : List Int, PyData.canLayAll0 (ns.map PyData.int) = true ∧ PyData.depthAll (ns.map PyData.int) = 0
  | [] => ⟨rfl, rfl⟩
  | n :: ns => by
    obtain ⟨h1, h2⟩ := ints_lay ns
    constructor
    · simp [PyData.canLayAll0, PyData.canLay0, h1]
    · simp [PyData.depthAll, PyData.depth, h2]
theorem toDs_lay {k : Nat} (ih : ∀ p, okd k p = true → p.toD.canLay0 = true ∧ p.toD.depth ≤ k) : ∀ xs : List PV, xs.all (okd k) = true → PyData.canLayAll0 (toDs xs) = true ∧ PyData.depthAll (toDs xs) ≤ k
  | [], _ => ⟨rfl, Nat.zero_le _⟩
  | x :: xs, h => by
    rw [List.all_cons, Bool.and_eq_true] at h
    obtain ⟨h1, h2⟩ := ih x h.1
    obtain ⟨h3, h4⟩ := toDs_lay ih xs h.2
    constructor
    · simp [toDs, PyData.canLayAll0, h1, h3]
    · simp only [toDs, PyData.depthAll]
      omega
theorem okd_lay : ∀ (k : Nat) (p : PV), okd k p = true → p.toD.canLay0 = true ∧ p.toD.depth ≤ k := by
  intro k
  induction k with
  | zero =>
    intro p h
    cases p <;> first | exact ⟨rfl, Nat.zero_le _⟩ | exact ⟨h, Nat.zero_le _⟩ | (simp [okd] at h)
  | succ k ih =>
    intro p h
    cases p with
    | non => exact ⟨rfl, Nat.zero_le _⟩
    | bl b => exact ⟨rfl, Nat.zero_le _⟩
    | int i => exact ⟨rfl, Nat.zero_le _⟩
    | str x => exact ⟨h, Nat.zero_le _⟩
    | tup xs =>
      obtain ⟨h1, h2⟩ := toDs_lay ih xs h
      exact ⟨by simpa [PV.toD, PyData.canLay0] using h1, by simp only [PV.toD, PyData.depth]; omega⟩
    | lst xs =>
      obtain ⟨h1, h2⟩ := toDs_lay ih xs h
      exact ⟨by simpa [PV.toD, PyData.canLay0] using h1, by simp only [PV.toD, PyData.depth]; omega⟩
    | scr ns =>
      obtain ⟨h1, h2⟩ := ints_lay ns
      exact ⟨by simpa [PV.toD, PyData.canLay0] using h1, by simp only [PV.toD, PyData.depth]; omega⟩
    | ref n => simp [okd] at h
    | raw v => simp [okd] at h
    | tuz xs =>
      obtain ⟨h1, h2⟩ := toDs_lay ih xs h
      exact ⟨by simpa [PV.toD, PyData.canLay0] using h1, by simp only [PV.toD, PyData.depth]; omega⟩
theorem okd_shaped {p : PV} (h : okd 60 p = true) : SeqAt.shaped p.toD = true := by
  obtain ⟨h1, h2⟩ := okd_lay 60 p h
  unfold SeqAt.shaped
  rw [h1, Bool.true_and]
  exact decide_eq_true (by omega)
section
variable {K : PySem.W.Frag} {G : Wd}
theorem dpAll_ints : ∀ ns : List Int, DpAll K G.H (ns.map V.int) (ns.map PyData.int)
  | [] => .nil
  | n :: ns => .cons (.int n) (dpAll_ints ns)
theorem reps_dp {k : Nat} (ih : ∀ p v, okd k p = true → Rep K G p v → Dp K G.H v p.toD) : ∀ (xs : List PV) (vs : List V), xs.all (okd k) = true → RepL K G xs vs → DpAll K G.H vs (toDs xs)
  | [], _, _, .nil => .nil
  | x :: xs, _, h, .cons r rr => by
    rw [List.all_cons, Bool.and_eq_true] at h
    exact .cons (ih x _ h.1 r) (reps_dp ih xs _ h.2 rr)
theorem rep_dp : ∀ (k : Nat) (p : PV) (v : V), okd k p = true → Rep K G p v → Dp K G.H v p.toD := by
  intro k
  induction k with
  | zero =>
    intro p v h r
    cases r with
    | non => exact .non
    | bl b => exact .bl b
    | int i => exact .int i
    | str x => exact .str x
    | _ => simp [okd] at h
  | succ k ih =>
    intro p v h r
    cases p with
    | non => cases r; exact .non
    | bl b => cases r; exact .bl b
    | int i => cases r; exact .int i
    | str x => cases r; exact .str x
    | tup xs =>
      obtain ⟨a, vs, rfl, q, rr⟩ := r.sqT
      exact .tup q (reps_dp ih xs vs h rr)
    | lst xs =>
      obtain ⟨a, vs, rfl, q, rr⟩ := r.sqL
      exact .lst (SqL.of q) (reps_dp ih xs vs h rr)
    | scr ns =>
      obtain ⟨a, rfl, q⟩ := r.sqS
      exact .lst q (dpAll_ints ns)
    | ref n => simp [okd] at h
    | raw v => simp [okd] at h
    | tuz xs =>
      obtain ⟨a, vs, rfl, q, rr⟩ := r.sqZ
      exact .tup q (reps_dp ih xs vs h rr)
/-- a shared list's content -/
def res (S : Stt) : PV → PV
  | .ref n => match S[n]? with
    | some (.lst xs) => .lst xs
    | none => .non
  | p => p
theorem res_dp {S : Stt} {p : PV} {v : V} (s : RepS K G S) (r : Rep K G p v) (h : okd 60 (res S p) = true) (hn : ∀ n, p = .ref n → S[n]? ≠ none) : Dp K G.H v (res S p).toD := by
  cases p with
  | ref n =>
    unfold res at h ⊢
    cases e : S[n]? with
    | none => exact absurd e (hn n rfl)
    | some o =>
      cases o with
      | lst xs =>
        simp only [e] at h ⊢
        obtain ⟨a, vs, rfl, _, q, rr⟩ := r.sqR s e
        exact .lst (SqL.of q) (reps_dp (rep_dp 59) xs vs h rr)
  | _ => exact rep_dp 60 _ _ h r
end
/-- == of data -/
def eqv (p q : PV) : Bool := PyData.eqv p.toD q.toD
def seen (S : Stt) : PV → Bool
  | .ref n => (S[n]?).isSome
  | _ => true
def pEq (S : Stt) (p q : PV) : Option PV := if (okd 60 (res S p) && okd 60 (res S q) && seen S p && seen S q) = true then some (.bl (eqv (res S p) (res S q))) else none
def pNe (S : Stt) (p q : PV) : Option PV := if (okd 60 (res S p) && okd 60 (res S q) && seen S p && seen S q) = true then some (.bl (!eqv (res S p) (res S q))) else none
theorem seen_ne {S : Stt} {p : PV} (h : seen S p = true) : ∀ n, p = .ref n → S[n]? ≠ none := fun n e z => by
  subst e
  have q : (S[n]?).isSome = true := h
  rw [z] at q
  cases q
theorem sure_frozen {G : Wd} {a : Addr} {o : HO} (su : Sure G) (hn : G.H a = none) (nt : NT o := by intro _ e; cases e) : Sure (G.frozen a o) := (Ext.frozen hn).sure su fun b hb => hb.elim .inl fun e => .inr ⟨o, by subst e; exact upd_same, nt⟩
section
variable {X : Cx} {z : Zx}
theorem op_pEq {j : Nat} (hr : Room j X.A) (hK : z.K = X.K := by rfl) : OpD X z (compareOp .Eq) pEq := by
  refine ⟨_, op_eqD hr.units, fun G S p q w x y Q e s su rp rq h => ?_⟩
  unfold pEq at e
  split at e
  · rename_i hc
    simp only [Bool.and_eq_true] at hc
    obtain ⟨⟨⟨h1, h2⟩, h3⟩, h4⟩ := hc
    cases e
    rw [hK] at s rp rq
    exact ⟨_, _, res_dp s rp h1 (seen_ne h3), res_dp s rq h2 (seen_ne h4), okd_shaped h1, okd_shaped h2, h _ G (.refl G) su (.bl _)⟩
  · cases e
theorem op_pNe {j : Nat} (hr : Room j X.A) (hK : z.K = X.K := by rfl) : OpD X z (compareOp .NotEq) pNe := by
  refine ⟨_, op_neD hr.units, fun G S p q w x y Q e s su rp rq h => ?_⟩
  unfold pNe at e
  split at e
  · rename_i hc
    simp only [Bool.and_eq_true] at hc
    obtain ⟨⟨⟨h1, h2⟩, h3⟩, h4⟩ := hc
    cases e
    rw [hK] at s rp rq
    exact ⟨_, _, res_dp s rp h1 (seen_ne h3), res_dp s rq h2 (seen_ne h4), okd_shaped h1, okd_shaped h2, h _ G (.refl G) su (.bl _)⟩
  · cases e
/-- ints by ints -/
def iI (C : Int → Int → Bool) (g : Int → Int → PV) : Stt → PV → PV → Option PV := fun _ p q => match p, q with
  | .int i, .int j => if C i j = true then some (g i j) else none
  | _, _ => none
theorem op_iI {g : Value → Value → Sem Value} {C : Int → Int → Bool} {C' : Int → Int → Prop} {k : Int → Int → Int} (o : OpR X g (rI C' fun i j => .int (k i j))) (hC : ∀ i j, C i j = true → C' i j) : OpD X z g (iI C fun i j => .int (k i j)) := by
  refine ⟨_, o, fun G S p q w x y Q e s su rp rq h => ?_⟩
  cases p with
  | int i =>
    cases q with
    | int j =>
      have e' : (if C i j = true then some (PV.int (k i j)) else none) = some w := e
      by_cases hc : C i j = true
      · rw [if_pos hc] at e'
        cases e'
        cases rp
        cases rq
        exact ⟨i, j, rfl, rfl, hC _ _ hc, h _ G (.refl G) su (.int _)⟩
      · rw [if_neg hc] at e'
        cases e'
    | _ => cases e
  | _ => cases e
theorem op_iB {g : Value → Value → Sem Value} {k : Int → Int → Bool} (o : OpR X g (rI0 fun i j => .bl (k i j))) : OpD X z g (iI (fun _ _ => true) fun i j => .bl (k i j)) := by
  refine ⟨_, o, fun G S p q w x y Q e s su rp rq h => ?_⟩
  cases p with
  | int i =>
    cases q with
    | int j =>
      cases (show some (PV.bl (k i j)) = some w from e)
      cases rp
      cases rq
      exact ⟨i, j, rfl, rfl, h _ G (.refl G) su (.bl _)⟩
    | _ => cases e
  | _ => cases e
theorem op_i0 {g : Value → Value → Sem Value} {k : Int → Int → Int} (o : OpR X g (rI0 fun i j => .int (k i j))) : OpD X z g (iI (fun _ _ => true) fun i j => .int (k i j)) := by
  refine ⟨_, o, fun G S p q w x y Q e s su rp rq h => ?_⟩
  cases p with
  | int i =>
    cases q with
    | int j =>
      cases (show some (PV.int (k i j)) = some w from e)
      cases rp
      cases rq
      exact ⟨i, j, rfl, rfl, h _ G (.refl G) su (.int _)⟩
    | _ => cases e
  | _ => cases e
def pSub := iI (fun _ _ => true) fun i j => .int (i - j)
def pLt := iI (fun _ _ => true) fun i j => .bl (decide (i < j))
def pLe := iI (fun _ _ => true) fun i j => .bl (decide (i ≤ j))
def pGt := iI (fun _ _ => true) fun i j => .bl (decide (j < i))
def pGe := iI (fun _ _ => true) fun i j => .bl (decide (j ≤ i))
def pMod := iI (fun _ j => decide (0 < j)) fun i j => .int (i % j)
def okDiv (j : Int) : Bool := decide (0 < j) && decide (j < 1000000000000000000000)
def pDiv := iI (fun _ j => okDiv j) fun i j => .int (i / j)
def okMul (i j : Int) : Bool := (decide (-18446744073709551616 < i) && decide (i < 18446744073709551616)) || (decide (-18446744073709551616 < j) && decide (j < 18446744073709551616))
def okPow (i j : Int) : Bool := decide (0 ≤ j) && decide (j ≤ 1000000) && decide (i.natAbs < 18446744073709551616)
def pPow := iI okPow fun i j => .int (i ^ j.toNat)
theorem op_pSub : OpD X z (binaryOp .Sub) pSub := op_i0 op_sub
theorem op_pLe : OpD X z (compareOp .LtE) pLe := op_iB op_le
theorem op_pGt : OpD X z (compareOp .Gt) pGt := op_iB op_gt
theorem op_pGe : OpD X z (compareOp .GtE) pGe := op_iB op_ge
theorem op_pMod : OpD X z (binaryOp .Mod) pMod := op_iI (C := fun _ j => decide (0 < j)) op_mod fun i j h => of_decide_eq_true h
theorem op_pDiv : OpD X z (binaryOp .FloorDiv) pDiv := op_iI (C := fun _ j => okDiv j) op_fdivW fun i j h => by
  unfold okDiv at h
  simp only [Bool.and_eq_true, decide_eq_true_eq] at h
  exact wide_div (b := 80) h.1 (by
    have : j.natAbs < 1000000000000000000000 := by omega
    exact Nat.lt_of_lt_of_le this (by decide)) (by decide) (by decide)
theorem op_pPow : OpD X z (binaryOp .Pow) pPow := op_iI op_pow fun i j h => by
  unfold okPow at h
  simp only [Bool.and_eq_true, decide_eq_true_eq] at h
  exact ⟨h.1.1, h.1.2, Nat.lt_of_lt_of_le h.2 (by decide)⟩
def pMulI := iI okMul fun i j => .int (i * j)
theorem op_pMulI : OpD X z (binaryOp .Mult) pMulI := op_iI op_mul fun i j h => by
  unfold okMul at h
  simp only [Bool.or_eq_true, Bool.and_eq_true, decide_eq_true_eq] at h
  have e : (2 : Int) ^ 64 = 18446744073709551616 := by decide
  rcases h with h | h
  · exact .inl (by rw [e]; exact h)
  · exact .inr (by rw [e]; exact h)
/-- list * int: a new list as a value; tuple * int -/
def pMulL : Stt → PV → PV → Option PV := fun _ p q => match p, q with
  | .lst xs, .int k => if k < 1048576 ∧ -1048576 < k ∧ xs.length * k.toNat ≤ sizeLine then some (.lst (List.replicate k.toNat xs).flatten) else none
  | _, _ => none
theorem op_pMulL (hK : z.K = X.K := by rfl) : OpD X z (binaryOp .Mult) pMulL := by
  refine ⟨_, op_rep, fun G S p q w x y Q e s su rp rq h => ?_⟩
  cases p with
  | lst xs =>
    cases q with
    | int k =>
      simp only [pMulL] at e
      split at e
      · rename_i hc
        cases e
        cases rq
        obtain ⟨a, vs, rfl, q, rr⟩ := rp.sqL
        have e2 : (2 : Int) ^ 63 = 9223372036854775808 := by decide
        refine ⟨a, k, vs, rfl, rfl, q, by rw [e2]; omega, by rw [e2]; omega, by rw [← rr.length]; exact hc.2.2, fun p hn => ?_⟩
        have M := (Ext.frozen (o := .lst (List.replicate k.toNat vs).flatten) hn).mon su
        exact h (.ref p) (G.frozen p (.lst (List.replicate k.toNat vs).flatten)) (Ext.frozen hn) (sure_frozen su hn) (.lst (.inr rfl) upd_same ((rr.rep k.toNat).mon M))
      · cases e
    | _ => cases e
  | _ => cases e
def pMul (S : Stt) (p q : PV) : Option PV := (pMulI S p q).or (pMulL S p q)
theorem op_pMul (hK : z.K = X.K := by rfl) : OpD X z (binaryOp .Mult) pMul := op_pMulI.or (op_pMulL hK)
/-- + of ints, texts, tuples, lists -/
def pAddI := iI (fun _ _ => true) fun i j => .int (i + j)
def pAddS : Stt → PV → PV → Option PV := fun _ p q => match p, q with
  | .str x, .str y => if x.length + y.length ≤ sizeLine then some (.str (x ++ y)) else none
  | .tup xs, .tup ys => if xs.length + ys.length ≤ sizeLine then some (.tup (xs ++ ys)) else none
  | .lst xs, .lst ys => if xs.length + ys.length ≤ sizeLine then some (.lst (xs ++ ys)) else none
  | _, _ => none
theorem repL_nil {K : PySem.W.Frag} {G : Wd} {xs : List PV} {vs : List V} (r : RepL K G xs vs) : vs = [] → xs = [] := fun e => by
  subst e
  cases r
  rfl
theorem op_pAddS (hK : z.K = X.K := by rfl) : OpD X z (binaryOp .Add) pAddS := by
  refine ⟨_, (op_add_str.or op_catN).or op_cat, fun G S p q w x y Q e s su rp rq h => ?_⟩
  cases p with
  | str x =>
    cases q with
    | str y =>
      simp only [pAddS] at e
      split at e
      · rename_i hc
        cases e
        cases rp
        cases rq
        exact .inl (.inl ⟨_, _, rfl, rfl, hc, h _ G (.refl G) su (.str _)⟩)
      · cases e
    | _ => cases e
  | tup xs =>
    cases q with
    | tup ys =>
      simp only [pAddS] at e
      split at e
      · rename_i hc
        cases e
        obtain ⟨a, vs, rfl, q1, r1⟩ := rp.sqT
        obtain ⟨b, ws, rfl, q2, r2⟩ := rq.sqT
        refine .inl (.inr ⟨a, b, vs, ws, rfl, rfl, by rw [← hK]; exact q1, by rw [← hK]; exact q2, by rw [← r1.length, ← r2.length]; exact hc, fun e => ?_, fun _ e => ?_, fun _ _ p o hn ho => ?_⟩)
        · have := repL_nil r1 e
          subst this
          exact h _ G (.refl G) su rq
        · have := repL_nil r2 e
          subst this
          exact h _ G (.refl G) su (by rw [List.append_nil]; exact rp)
        · have M := (Ext.frozen (o := .frz o (.tup (vs ++ ws))) hn).mon su
          exact h (.ref p) (G.frozen p (.frz o (.tup (vs ++ ws)))) (Ext.frozen hn) (sure_frozen su hn) (.tup (.inl ⟨.inr rfl, o, ho, upd_same⟩) ((r1.append r2).mon M))
      · cases e
    | _ => cases e
  | lst xs =>
    cases q with
    | lst ys =>
      simp only [pAddS] at e
      split at e
      · rename_i hc
        cases e
        obtain ⟨a, vs, rfl, q1, r1⟩ := rp.sqL
        obtain ⟨b, ws, rfl, q2, r2⟩ := rq.sqL
        refine .inr ⟨a, b, vs, ws, rfl, rfl, q1, q2, by rw [← r1.length, ← r2.length]; exact hc, fun p hn => ?_⟩
        have M := (Ext.frozen (o := .lst (vs ++ ws)) hn).mon su
        exact h (.ref p) (G.frozen p (.lst (vs ++ ws))) (Ext.frozen hn) (sure_frozen su hn) (.lst (.inr rfl) upd_same ((r1.append r2).mon M))
      · cases e
    | _ => cases e
  | _ => cases e
def pAdd (S : Stt) (p q : PV) : Option PV := (pAddI S p q).or (pAddS S p q)
theorem op_pAdd (hK : z.K = X.K := by rfl) : OpD X z (binaryOp .Add) pAdd := (op_i0 op_add).or (op_pAddS hK)
/-- in, over a list of data -/
def pIn : Stt → PV → PV → Option PV := fun _ p q => match q with
  | .lst xs => if (okd 60 p && okd 60 (.lst xs)) = true then some (.bl (xs.any fun y => eqv y p)) else none
  | _ => none
def pNotIn : Stt → PV → PV → Option PV := fun _ p q => match q with
  | .lst xs => if (okd 60 p && okd 60 (.lst xs)) = true then some (.bl (!xs.any fun y => eqv y p)) else none
  | _ => none
theorem any_toDs (p : PV) : ∀ xs : List PV, (toDs xs).any (fun y => PyData.eqv y p.toD) = xs.any fun y => eqv y p
  | [] => rfl
  | x :: xs => by
    simp only [toDs, List.any_cons, any_toDs p xs]
    rfl
theorem op_pIn {j : Nat} (hr : Room j X.A) (hK : z.K = X.K := by rfl) : OpD X z (compareOp .In) pIn := by
  refine ⟨_, op_inD (by have := hr.un; omega), fun G S p q w x y Q e s su rp rq h => ?_⟩
  cases q with
  | lst xs =>
    simp only [pIn] at e
    split at e
    · rename_i hc
      rw [Bool.and_eq_true] at hc
      cases e
      rw [hK] at s rp rq
      exact ⟨_, _, rep_dp 60 _ _ hc.1 rp, rep_dp 60 _ _ hc.2 rq, okd_shaped hc.1, okd_shaped hc.2, by rw [any_toDs]; exact h _ G (.refl G) su (.bl _)⟩
    · cases e
  | _ => cases e
theorem op_pNotIn {j : Nat} (hr : Room j X.A) (hK : z.K = X.K := by rfl) : OpD X z (compareOp .NotIn) pNotIn := by
  refine ⟨_, op_notInD (by have := hr.un; omega), fun G S p q w x y Q e s su rp rq h => ?_⟩
  cases q with
  | lst xs =>
    simp only [pNotIn] at e
    split at e
    · rename_i hc
      rw [Bool.and_eq_true] at hc
      cases e
      rw [hK] at s rp rq
      exact ⟨_, _, rep_dp 60 _ _ hc.1 rp, rep_dp 60 _ _ hc.2 rq, okd_shaped hc.1, okd_shaped hc.2, by rw [any_toDs]; exact h _ G (.refl G) su (.bl _)⟩
    · cases e
  | _ => cases e
/-! ### subscripts, slices -/
variable {pos p2 : Pos} {a b : Expr} {da db : Cd PV}
theorem atI_rep {K : PySem.W.Frag} {G : Wd} {ps : List PV} {vs : List V} {i : Int} {p : PV} (r : RepL K G ps vs) (h : atI ps i = some p) : ∃ v, atI vs i = some v ∧ Rep K G p v := by
  unfold atI at h ⊢
  rw [← r.length]
  cases e : ixN ps.length i with
  | none => rw [e] at h; cases h
  | some j =>
    rw [e] at h
    obtain ⟨v, e1, r1⟩ := r.get (i := j) h
    exact ⟨v, e1, r1⟩
def pIx (S : Stt) (p q : PV) : Option PV := match res S p, q with
  | .tup xs, .int i => atI xs i
  | .lst xs, .int i => atI xs i
  | .scr ns, .int i => (atI ns i).map PV.int
  | .str z, .int i => if z.length ≤ sizeLine then (atI z.cps.toList i).map fun c => PV.str ⟨#[c]⟩ else none
  | _, _ => none
theorem atI_map {α β : Type} (f : α → β) (xs : List α) (i : Int) : atI (xs.map f) i = (atI xs i).map f := by
  unfold atI
  rw [List.length_map]
  cases ixN xs.length i with
  | none => rfl
  | some j => simp
theorem ix_rep {K : PySem.W.Frag} {G : Wd} {S : Stt} {p q w : PV} {x y : V} {Q : VK} (h : pIx S p q = some w) (s : RepS K G S) (rp : Rep K G p x) (rq : Rep K G q y) (k : ∀ v, Rep K G w v → Q v G.H) : rIx K x y G.H Q := by
  cases q with
  | int i =>
    cases rq
    cases p with
    | tup xs =>
      obtain ⟨a, vs, rfl, q, r⟩ := rp.sqT
      obtain ⟨v, e, r1⟩ := atI_rep r h
      exact .inr (.inl ⟨a, vs, i, v, rfl, rfl, q, e, k v r1⟩)
    | lst xs =>
      obtain ⟨a, vs, rfl, q, r⟩ := rp.sqL
      obtain ⟨v, e, r1⟩ := atI_rep r h
      exact .inl ⟨a, vs, i, v, rfl, rfl, SqL.of q, e, k v r1⟩
    | scr ns =>
      obtain ⟨a, rfl, q⟩ := rp.sqS
      cases e : atI ns i with
      | none =>
        have h' : (atI ns i).map PV.int = some w := h
        rw [e] at h'; cases h'
      | some n =>
        have h' : (atI ns i).map PV.int = some w := h
        rw [e] at h'
        cases h'
        exact .inl ⟨a, _, i, .int n, rfl, rfl, q, by rw [atI_map, e]; rfl, k _ (.int n)⟩
    | str z =>
      cases rp
      simp only [pIx, res] at h
      split at h
      · rename_i hl
        cases e : atI z.cps.toList i with
        | none => rw [e] at h; cases h
        | some c =>
          rw [e] at h
          cases h
          exact .inr (.inr ⟨z, i, c, rfl, rfl, hl, e, k _ (.str _)⟩)
      · cases h
    | ref n =>
      unfold pIx res at h
      cases e : S[n]? with
      | none => simp only [e] at h; cases h
      | some o =>
        cases o with
        | lst xs =>
          simp only [e] at h
          obtain ⟨a, vs, rfl, _, q, r⟩ := rp.sqR s e
          obtain ⟨v, e1, r1⟩ := atI_rep r h
          exact .inl ⟨a, vs, i, v, rfl, rfl, SqL.of q, e1, k v r1⟩
    | _ => cases h
  | _ =>
    unfold pIx at h
    split at h <;> first | cases h | (rename_i h1 h2; cases h2)
theorem me_ix (ha : ME X z a da) (hb : ME X z b db) (hK : z.K = X.K := by rfl) (hs : PlainIx b := by exact fun _ _ => rfl) : ME X z (.Subscript a b pos) (dOp pIx da db) := by
  refine (pe_ix ix_seq ha hb hs).imp fun σ H Q h => ?_
  refine re_op (g := fun _ _ => pure .none) (f := pIx) (r := rIx X.K) (fun G S p q w x y Q e s su rp rq h => ?_) h
  rw [hK] at s rp rq
  exact ix_rep e s rp rq fun v r => h v G (.refl G) su (by rw [hK]; exact r)
/-- the items of xs[lo:hi] -/
def cutP {α : Type} (xs : List α) (lo hi : Option Int) : List α := (xs.drop (HT.sIx xs.length 0 lo)).take (HT.sIx xs.length xs.length hi - HT.sIx xs.length 0 lo)
theorem RepL.cut {K : PySem.W.Frag} {G : Wd} {ps : List PV} {vs : List V} (r : RepL K G ps vs) (lo hi : Option Int) : RepL K G (cutP ps lo hi) (cutV vs lo hi) := by
  unfold cutP cutV
  rw [r.length]
  exact (r.drop _).take _
theorem cut_whole {α : Type} (xs : List α) {lo hi : Option Int} (h : HT.sIx xs.length 0 lo = 0 ∧ HT.sIx xs.length xs.length hi = xs.length) : cutP xs lo hi = xs := by
  unfold cutP
  rw [h.1, h.2]
  simp
def PostO (z : Zx) (G : Wd) (σ : St) (Q : Option Int → Hp → Prop) : Out (Option Int) → Prop
  | .ok o env S => ∀ (G' : Wd), Mon G G' → At z.K z.G0 G' S env σ → Q o G'.H
  | .raise c w env S => ∀ σ', PRaise z G c w env S σ'
  | .bad => False
def RO (z : Zx) (d : Cd (Option Int)) : TO := fun σ H Q => ∃ G env S, G.H = H ∧ At z.K z.G0 G S env σ ∧ PostO z G σ Q (d env S)
abbrev MO (X : Cx) (z : Zx) (e : Option Expr) (d : Cd (Option Int)) : Prop := PO X e (RO z d)
theorem PostO.later {z : Zx} {G G1 : Wd} {σ : St} {Q : Option Int → Hp → Prop} {o : Out (Option Int)} (h : PostO z G σ Q o) (M : Mon G G1) : PostO z G1 σ Q o := by
  cases o with
  | ok p env S => exact fun G' m a => h G' (M.trans m) a
  | raise c w env S => exact fun σ' => (h σ').later M
  | bad => exact h
theorem lwO {z : Zx} {σ : St} {Q : Option Int → Hp → Prop} : Lw z (fun G o => PostO z G σ Q o) := ⟨fun _ _ _ h m => h.later m, fun _ _ _ _ _ h => h, fun _ h => h⟩
theorem toO {β : Type} {F : Wd → Out β → Prop} {G : Wd} {env : Env} {S : Stt} {σ : St} (L : Lw z F) {d : Cd (Option Int)} {k : Option Int → Cd β} {R : Option Int → Hp → Prop} (A : At z.K z.G0 G S env σ) (P : F G (bnd d k env S))
    (h : ∀ o env1 S1 G1, Mon G G1 → At z.K z.G0 G1 S1 env1 σ → F G1 (k o env1 S1) → R o G1.H) : RO z d σ G.H R := by
  refine ⟨G, env, S, rfl, A, ?_⟩
  unfold bnd at P
  cases e : d env S with
  | ok p env1 S1 =>
    rw [e] at P
    exact fun G1 m a => h p env1 S1 G1 m a (L.later _ _ _ P m)
  | raise c w env1 S1 =>
    rw [e] at P
    exact L.rais _ _ _ _ _ P
  | bad =>
    rw [e] at P
    exact (L.bad _ P).elim
def dNoPart : Cd (Option Int) := ret none
def dPart (d : Cd PV) : Cd (Option Int) := bnd d fun p => match p with
  | .int i => ret (some i)
  | _ => fun _ _ => .bad
theorem _root_.L2.PO.imp {e : Option Expr} {t t' : TO} (h : PO X e t) (i : ∀ σ H Q, t' σ H Q → t σ H Q) : PO X e t' := ⟨fun pins s σ H Q I q => h.run pins s σ H Q I (i σ H Q q)⟩
theorem mo_none : MO X z none dNoPart := po_none.imp fun σ H Q ⟨G, env, S, e, A, P⟩ => by
  subst e
  exact P G (Mon.refl _) A
theorem mo_some {d : Cd PV} (h : ME X z a d) : MO X z (some a) (dPart d) := (po_some h).imp fun σ H Q ⟨G, env, S, e, A, P⟩ => by
  subst e
  refine toE lwO A P fun p env1 S1 v G1 m1 A1 r1 P1 => ?_
  cases p with
  | int i =>
    cases r1
    exact ⟨i, rfl, P1 G1 (Mon.refl _) A1⟩
  | _ => exact P1.elim
def pCut (S : Stt) (p : PV) (lo hi : Option Int) : Option PV := match res S p with
  | .tup xs => some (.tup (cutP xs lo hi))
  | .lst xs => some (.lst (cutP xs lo hi))
  | .scr ns => some (.lst ((cutP ns lo hi).map PV.int))
  | _ => none
def dCut (d : Cd PV) (lo hi : Cd (Option Int)) : Cd PV := bnd d fun p => bnd lo fun l => bnd hi fun h => fun e s => match pCut s p l h with
  | some w => .ok w e s
  | none => .bad
theorem cutP_map {α β : Type} (f : α → β) (xs : List α) (lo hi : Option Int) : cutP (xs.map f) lo hi = (cutP xs lo hi).map f := by
  unfold cutP
  rw [List.length_map, List.map_take, List.map_drop]
theorem cut_rep {K : PySem.W.Frag} {G : Wd} {S : Stt} {p w : PV} {lo hi : Option Int} {x : V} {Q : VK} (h : pCut S p lo hi = some w) (s : RepS K G S) (su : Sure G) (rp : Rep K G p x) (k : ∀ v G', Ext G G' → Sure G' → Rep K G' w v → Q v G'.H) :
    rSlN K x lo hi G.H Q ∨ rSlL K x lo hi G.H Q := by
  have newL : ∀ (a : Addr) (vs : List V) (xs : List PV), SqL K G.H a vs → RepL K G xs vs → w = .lst (cutP xs lo hi) → rSlL K (.ref a) lo hi G.H Q := fun a vs xs q r e => by
    refine ⟨a, vs, rfl, q, fun p hn => ?_⟩
    subst e
    have M := (Ext.frozen (o := .lst (cutV vs lo hi)) hn).mon su
    exact k (.ref p) (G.frozen p (.lst (cutV vs lo hi))) (Ext.frozen hn) (sure_frozen su hn) (.lst (.inr rfl) upd_same ((r.cut lo hi).mon M))
  cases p with
  | tup xs =>
    cases h
    obtain ⟨a, vs, rfl, q, r⟩ := rp.sqT
    refine .inl ⟨a, vs, rfl, q, fun hw => ?_, fun _ p o hn ho => ?_⟩
    · rw [← r.length] at hw
      rw [cut_whole xs hw] at k
      exact k _ G (.refl G) su rp
    · have M := (Ext.frozen (o := .frz o (.tup (cutV vs lo hi))) hn).mon su
      exact k (.ref p) (G.frozen p (.frz o (.tup (cutV vs lo hi)))) (Ext.frozen hn) (sure_frozen su hn) (.tup (.inl ⟨.inr rfl, o, ho, upd_same⟩) ((r.cut lo hi).mon M))
  | lst xs =>
    cases h
    obtain ⟨a, vs, rfl, q, r⟩ := rp.sqL
    exact .inr (newL a vs xs (SqL.of q) r rfl)
  | scr ns =>
    cases h
    obtain ⟨a, rfl, q⟩ := rp.sqS
    exact .inr (newL a _ _ q (RepL.ints ns) (by rw [cutP_map]))
  | ref n =>
    unfold pCut res at h
    cases e : S[n]? with
    | none => simp only [e] at h; cases h
    | some o =>
      cases o with
      | lst xs =>
        simp only [e] at h
        cases h
        obtain ⟨a, vs, rfl, _, q, r⟩ := rp.sqR s e
        exact .inr (newL a vs xs (SqL.of q) r rfl)
  | _ => cases h
theorem me_cut {d : Cd PV} {lo hi : Option Expr} {dl dh : Cd (Option Int)} (h : ME X z a d) (hl : MO X z lo dl) (hh : MO X z hi dh) (hK : z.K = X.K := by rfl) : ME X z (.Subscript a (.Slice lo hi none p2) pos) (dCut d dl dh) := by
  refine (pe_slice (sl_tupN.or sl_list) h hl hh).imp fun σ H Q ⟨G, env, S, e, A, P⟩ => ?_
  subst e
  refine toE lwE A P fun p env1 S1 v G1 m1 A1 r1 P1 => toO lwE A1 P1 fun l env2 S2 G2 m2 A2 P2 => toO lwE A2 P2 fun u env3 S3 G3 m3 A3 P3 => ?_
  cases e : pCut S3 p l u with
  | none => simp only [e] at P3; exact P3.elim
  | some w =>
    simp only [e] at P3
    rw [← hK]
    exact cut_rep e A3.st A3.sure (r1.mon (m2.trans m3)) fun v G' x su r => P3 v G' (x.mon A3.sure) (A3.ext x su) r
/-! ### calls of built-ins -/
def CallD (X : Cx) (z : Zx) (f : Value) (g : Stt → List PV → Option PV) : Prop :=
  ∃ r : List V → Hp → VK → Prop, CallR X f r ∧ ∀ (G : Wd) (S : Stt) (ps : List PV) (w : PV) (vs : List V) (Q : VK), g S ps = some w → RepS z.K G S → Sure G → RepL z.K G ps vs →
    (∀ v G', Ext G G' → Sure G' → Rep z.K G' w v → Q v G'.H) → r vs G.H Q
def dFn (g : Stt → List PV → Option PV) (d : Cd (List PV)) : Cd PV := bnd d fun ps => fun e s => match g s ps with
  | some w => .ok w e s
  | none => .bad
variable {e : Expr} {es : List Expr} {d : Cd (List PV)} {p : Pos} {x : Str}
theorem ra_fn {f : Value} {g : Stt → List PV → Option PV} {r : List V → Hp → VK → Prop} {σ : St} {H : Hp} {Q : VK}
    (k : ∀ (G : Wd) (S : Stt) (ps : List PV) (w : PV) (vs : List V) (Q : VK), g S ps = some w → RepS z.K G S → Sure G → RepL z.K G ps vs → (∀ v G', Ext G G' → Sure G' → Rep z.K G' w v → Q v G'.H) → r vs G.H Q)
    (h : RE z (dFn g d) σ H Q) : tCB r (RA z d) σ H Q := by
  obtain ⟨G, env, S, e, A, P⟩ := h
  subst e
  refine toA lwE A P fun ps env1 S1 vs G1 m1 A1 r1 P1 => ?_
  cases e : g S1 ps with
  | none => simp only [e] at P1; exact P1.elim
  | some w =>
    simp only [e] at P1
    exact k G1 S1 ps w vs Q e A1.st A1.sure r1 fun v G' xx su rv => P1 v G' (xx.mon A1.sure) (A1.ext xx su) rv
theorem me_blt {id : String} {g : Stt → List PV → Option PV} (c : CallD X z (.builtin id) g) (hm : X.mg x = none) (ha : MA X z (e :: es) d) (hv : bootBuiltins x = some (.builtin id) := by decide +kernel) (hg : Gl X x := by rfl) (hn : x ≠ "__name__" := by decide) (hdb : (x == ("__debug__" : Str)) = false := by decide)
    (he : starEach (e :: es) X.env = (false, eval e X.env) :: starEach es X.env := by rfl) (hpl : (backTo pos (starEach es X.env)).any (·.1) = false := by rfl) : ME X z (.Call (.Name x p) (e :: es) [] pos) (dFn g d) := by
  obtain ⟨r, c, k⟩ := c
  exact (pe_callB c hg hm hv ha hn hdb he hpl).imp fun σ H Q h => ra_fn (f := .none) k h
theorem me_bty {T : String} {g : Stt → List PV → Option PV} (c : CallD X z (.type T) g) (hm : X.mg x = none) (ha : MA X z (e :: es) d) (hv : bootBuiltins x = some (.type T) := by decide +kernel) (hg : Gl X x := by rfl) (hn : x ≠ "__name__" := by decide) (hdb : (x == ("__debug__" : Str)) = false := by decide)
    (he : starEach (e :: es) X.env = (false, eval e X.env) :: starEach es X.env := by rfl) (hpl : (backTo pos (starEach es X.env)).any (·.1) = false := by rfl) : ME X z (.Call (.Name x p) (e :: es) [] pos) (dFn g d) := by
  obtain ⟨r, c, k⟩ := c
  exact (pe_callTy c hg hm hv ha hn hdb he hpl).imp fun σ H Q h => ra_fn (f := .none) k h
theorem repL1 {K : PySem.W.Frag} {G : Wd} {p : PV} {vs : List V} (r : RepL K G [p] vs) : ∃ v, vs = [v] ∧ Rep K G p v := by
  cases r with
  | cons h t => cases t; exact ⟨_, rfl, h⟩
theorem repL2 {K : PySem.W.Frag} {G : Wd} {p q : PV} {vs : List V} (r : RepL K G [p, q] vs) : ∃ v w, vs = [v, w] ∧ Rep K G p v ∧ Rep K G q w := by
  cases r with
  | cons h t =>
    cases t with
    | cons h' t' => cases t'; exact ⟨_, _, rfl, h, h'⟩
/-- len -/
def fLen (S : Stt) (ps : List PV) : Option PV := match ps with
  | [p] => match res S p with
    | .tup xs => some (.int xs.length)
    | .lst xs => some (.int xs.length)
    | .scr ns => some (.int ns.length)
    | .str x => if x.length ≤ sizeLine then some (.int x.length) else none
    | _ => none
  | _ => none
theorem c_len (hK : z.K = X.K := by rfl) : CallD X z (.builtin "len") fLen := by
  refine ⟨_, call_len_seq.or call_len_str, fun G S ps w vs Q h s su r k => ?_⟩
  rw [← hK]
  match ps, h with
  | [p], h =>
    obtain ⟨v, rfl, rp⟩ := repL1 r
    cases p with
    | tup xs =>
      cases h
      obtain ⟨a, vs, rfl, q, rr⟩ := rp.sqT
      exact .inl ⟨a, vs, rfl, .inr q, by rw [← rr.length]; exact k _ G (.refl G) su (.int _)⟩
    | lst xs =>
      cases h
      obtain ⟨a, vs, rfl, q, rr⟩ := rp.sqL
      exact .inl ⟨a, vs, rfl, .inl (SqL.of q), by rw [← rr.length]; exact k _ G (.refl G) su (.int _)⟩
    | scr ns =>
      cases h
      obtain ⟨a, rfl, q⟩ := rp.sqS
      exact .inl ⟨a, _, rfl, .inl q, by rw [List.length_map]; exact k _ G (.refl G) su (.int _)⟩
    | str x =>
      cases rp
      simp only [fLen, res] at h
      split at h
      · rename_i hl
        cases h
        exact .inr ⟨x, rfl, hl, k _ G (.refl G) su (.int _)⟩
      · cases h
    | ref n =>
      unfold fLen res at h
      cases e : S[n]? with
      | none => simp only [e] at h; cases h
      | some o =>
        cases o with
        | lst xs =>
          simp only [e] at h
          cases h
          obtain ⟨a, vs, rfl, _, q, rr⟩ := rp.sqR s e
          exact .inl ⟨a, vs, rfl, .inl (SqL.of q), by rw [← rr.length]; exact k _ G (.refl G) su (.int _)⟩
    | _ => cases h
def fInt (_ : Stt) (ps : List PV) : Option PV := match ps with
  | [.int i] => some (.int i)
  | [.bl b] => some (.int (if b then 1 else 0))
  | _ => none
theorem c_int : CallD X z (.type "int") fInt := by
  refine ⟨_, call_int1, fun G S ps w vs Q h s su r k => ?_⟩
  match ps, h with
  | [.int i], h =>
    cases h
    obtain ⟨v, rfl, rp⟩ := repL1 r
    cases rp
    exact .inl ⟨i, rfl, k _ G (.refl G) su (.int _)⟩
  | [.bl b], h =>
    cases h
    obtain ⟨v, rfl, rp⟩ := repL1 r
    cases rp
    exact .inr ⟨b, rfl, k _ G (.refl G) su (.int _)⟩
def fMin (_ : Stt) (ps : List PV) : Option PV := match ps with
  | [.int i, .int j] => some (.int (if j < i then j else i))
  | _ => none
def fMax (_ : Stt) (ps : List PV) : Option PV := match ps with
  | [.int i, .int j] => some (.int (if j > i then j else i))
  | _ => none
theorem c_min (hc : X.calm = true := by rfl) : CallD X z (.builtin "min") fMin := by
  refine ⟨_, call_min2 hc, fun G S ps w vs Q h s su r k => ?_⟩
  match ps, h with
  | [.int i, .int j], h =>
    cases h
    obtain ⟨v, u, rfl, rp, rq⟩ := repL2 r
    cases rp
    cases rq
    exact ⟨i, j, rfl, k _ G (.refl G) su (.int _)⟩
theorem c_max (hc : X.calm = true := by rfl) : CallD X z (.builtin "max") fMax := by
  refine ⟨_, call_max2 hc, fun G S ps w vs Q h s su r k => ?_⟩
  match ps, h with
  | [.int i, .int j], h =>
    cases h
    obtain ⟨v, u, rfl, rp, rq⟩ := repL2 r
    cases rp
    cases rq
    exact ⟨i, j, rfl, k _ G (.refl G) su (.int _)⟩
/-- isinstance of data -/
def tyN : PV → Option String
  | .non => some "NoneType"
  | .bl _ => some "bool"
  | .int _ => some "int"
  | .str _ => some "str"
  | .tup _ => some "tuple"
  | .lst _ => some "list"
  | .scr _ => none
  | _ => none
/-- a's class beneath b -/
def subT (a b : String) : Option Bool := if ["int", "bool", "str", "tuple", "list"].contains b = true then some (a == b || (a == "bool" && b == "int")) else none
def fIsi (_ : Stt) (ps : List PV) : Option PV := match ps with
  | [p, .raw (.ty n)] => (tyN p).bind fun t => (subT t n).map PV.bl
  | _ => none
theorem sub_kit {p : PV} {t n : String} {b : Bool} (h : tyN p = some t) (hb : subT t n = some b) : kitB t n = some b := by
  have hn : n = "int" ∨ n = "bool" ∨ n = "str" ∨ n = "tuple" ∨ n = "list" := by
    unfold subT at hb
    split at hb
    · rename_i hc
      simpa using hc
    · cases hb
  have ht : t = "NoneType" ∨ t = "bool" ∨ t = "int" ∨ t = "str" ∨ t = "tuple" ∨ t = "list" := by
    cases p <;> simp [tyN] at h <;> simp [← h]
  rcases hn with rfl | rfl | rfl | rfl | rfl <;> rcases ht with rfl | rfl | rfl | rfl | rfl | rfl <;>
    (rw [← hb]; decide +kernel)
theorem rep_ty {K : PySem.W.Frag} {G : Wd} {p : PV} {v : V} {t : String} (r : Rep K G p v) (h : tyN p = some t) : TyX K G.H v (.type t) := by
  cases p with
  | non => cases h; cases r; exact .base .non
  | bl b => cases h; cases r; exact .base (.bl b)
  | int i => cases h; cases r; exact .base (.int i)
  | str x => cases h; cases r; exact .base (.str x)
  | tup xs =>
    cases h
    cases r with
    | tup hh rr =>
      rcases hh with ⟨_, o, _, q⟩ | q
      · exact .fTuple q
      · rcases q.1 with (q | ⟨o, q⟩) | ⟨o, its, n, q, c, _⟩
        · cases q
        · cases q
        · exact .kTuple q c
  | lst xs =>
    cases h
    cases r with
    | lst _ q rr => exact .base (.lst q)
  | _ => cases h
theorem c_isi (hK : z.K = X.K := by rfl) : CallD X z (.builtin "isinstance") fIsi := by
  refine ⟨_, call_isi, fun G S ps w vs Q h s su r k => ?_⟩
  rw [← hK]
  match ps, h with
  | [p, .raw (.ty n)], h =>
    obtain ⟨v, u, rfl, rp, rq⟩ := repL2 r
    cases rq
    have h' : ((tyN p).bind fun t => (subT t n).map PV.bl) = some w := h
    cases e : tyN p with
    | none => rw [e] at h'; cases h'
    | some t =>
      rw [e, Option.bind_some] at h'
      cases e2 : subT t n with
      | none => rw [e2] at h'; cases h'
      | some b =>
        rw [e2] at h'
        cases h'
        exact ⟨v, .ty n, .type t, .type n, b, rfl, .ty n, rep_ty rp e, kit_ty (sub_kit e e2), k _ G (.refl G) su (.bl b)⟩
/-- tuple(..), list(..) -/
def fTuple (S : Stt) (ps : List PV) : Option PV := match ps with
  | [p] => match res S p with
    | .tup xs => some (.tup xs)
    | .lst xs => some (.tup xs)
    | .scr ns => some (.tup (ns.map PV.int))
    | _ => none
  | _ => none
theorem c_tuple (hK : z.K = X.K := by rfl) : CallD X z (.type "tuple") fTuple := by
  refine ⟨_, call_tuple_ofN, fun G S ps w vs Q h s su r k => ?_⟩
  rw [← hK]
  have newT : ∀ (a : Addr) (ws : List V) (xs : List PV), SqL z.K G.H a ws → RepL z.K G xs ws → w = .tup xs → ∃ p ys, [V.ref a] = [.ref p] ∧ ((SqL z.K G.H p ys ∧ ∀ l o, G.H l = none → o.dict = none → Q (.ref l) (upd G.H l (.frz o (.tup ys)))) ∨ (SqT z.K G.H p ys ∧ Q (.ref p) G.H)) := fun a ws xs q rr e => by
    refine ⟨a, ws, rfl, .inl ⟨q, fun l o hn ho => ?_⟩⟩
    subst e
    have M := (Ext.frozen (o := .frz o (.tup ws)) hn).mon su
    exact k (.ref l) (G.frozen l (.frz o (.tup ws))) (Ext.frozen hn) (sure_frozen su hn) (.tup (.inl ⟨.inr rfl, o, ho, upd_same⟩) (rr.mon M))
  match ps, h with
  | [p], h =>
    obtain ⟨v, rfl, rp⟩ := repL1 r
    cases p with
    | tup xs =>
      cases h
      obtain ⟨a, vs, rfl, q, rr⟩ := rp.sqT
      exact ⟨a, vs, rfl, .inr ⟨q, k _ G (.refl G) su rp⟩⟩
    | lst xs =>
      cases h
      obtain ⟨a, vs, rfl, q, rr⟩ := rp.sqL
      exact newT a vs xs (SqL.of q) rr rfl
    | scr ns =>
      cases h
      obtain ⟨a, rfl, q⟩ := rp.sqS
      exact newT a _ _ q (RepL.ints ns) rfl
    | ref n =>
      unfold fTuple res at h
      cases e : S[n]? with
      | none => simp only [e] at h; cases h
      | some o =>
        cases o with
        | lst xs =>
          simp only [e] at h
          cases h
          obtain ⟨a, vs, rfl, _, q, rr⟩ := rp.sqR s e
          exact newT a vs xs (SqL.of q) rr rfl
    | _ => cases h
/-- list(..): a new list -/
def itemsOf (S : Stt) (p : PV) : Option (List PV) := match res S p with
  | .tup xs => some xs
  | .lst xs => some xs
  | .scr ns => some (ns.map PV.int)
  | _ => none
def dListF (d : Cd PV) : Cd (List PV) := bnd d fun p => fun e s => match itemsOf s p with
  | some xs => .ok xs e s
  | none => .bad
theorem items_rep {K : PySem.W.Frag} {G : Wd} {S : Stt} {p : PV} {xs : List PV} {v : V} (h : itemsOf S p = some xs) (s : RepS K G S) (r : Rep K G p v) : ∃ a vs, v = .ref a ∧ (SqL K G.H a vs ∨ SqT K G.H a vs) ∧ RepL K G xs vs := by
  cases p with
  | tup ys =>
    cases h
    obtain ⟨a, vs, rfl, q, rr⟩ := r.sqT
    exact ⟨a, vs, rfl, .inr q, rr⟩
  | lst ys =>
    cases h
    obtain ⟨a, vs, rfl, q, rr⟩ := r.sqL
    exact ⟨a, vs, rfl, .inl (SqL.of q), rr⟩
  | scr ns =>
    cases h
    obtain ⟨a, rfl, q⟩ := r.sqS
    exact ⟨a, _, rfl, .inl q, RepL.ints ns⟩
  | ref n =>
    unfold itemsOf res at h
    cases e : S[n]? with
    | none => simp only [e] at h; cases h
    | some o =>
      cases o with
      | lst ys =>
        simp only [e] at h
        cases h
        obtain ⟨a, vs, rfl, _, q, rr⟩ := r.sqR s e
        exact ⟨a, vs, rfl, .inl (SqL.of q), rr⟩
  | _ => cases h
theorem mf_list {d : Cd PV} (ha : ME X z e d) (hm : X.mg "list" = none) (hK : z.K = X.K := by rfl) (hg : Gl X "list" := by rfl) (hs : starEach [e] X.env = (false, eval e X.env) :: starEach [] X.env := by rfl) (hpl : (backTo pos (starEach [] X.env)).any (·.1) = false := by rfl) :
    MF X z (.Call (.Name "list" p) [e] [] pos) (dListF d) := by
  refine (pe_callTy (x := "list") call_list_of hg hm (by decide +kernel) (pa_cons ha pa_nil hs) (by decide) (by decide) hs hpl).imp fun σ H Q ⟨G, env, S, e, A, P⟩ => ?_
  subst e
  refine toE lwF A P fun p env1 S1 v G1 m1 A1 r1 P1 => ?_
  cases e : itemsOf S1 p with
  | none => simp only [e] at P1; exact P1.elim
  | some xs =>
    simp only [e] at P1
    obtain ⟨a, vs, rfl, q, rr⟩ := items_rep e A1.st r1
    refine ⟨a, vs, rfl, by rw [← hK]; exact q, fun l hn => ?_⟩
    have M : Mon G1 (G1.fresh l (.lst vs)) := (Ext.fresh hn).mon A1.sure
    have q := A1.alone (vs := vs) hn
    exact P1 l vs _ M (A1.fresh hn) (rr.mon M) q.at_ q.nf q.nm q.n0 q.no
end
end FS
set_option Elab.async false
set_option linter.all false
set_option maxRecDepth 100000
/-! FsMore: places held alone, shared lists changed, walks, comprehensions. -/
namespace FS
open PySem PySem.Spec L2
section
variable {z : Zx} {G : Wd} {env : Env} {S : Stt} {σ : St} {i n : Nat}
theorem list_set_self {α : Type} {l : List α} {i : Nat} {a : α} (h : l[i]? = some a) : l.set i a = l := by
  apply List.ext_getElem?
  intro j
  rw [getElem?_set']
  by_cases hj : i = j
  · subst hj
    rw [if_pos rfl, if_pos (List.getElem?_eq_some_iff.mp h).1, h]
  · rw [if_neg hj]
/-- a held list becomes a value -/
theorem At.soft {xs : List PV} (A : At z.K z.G0 G S env σ) (h : env[i]? = some (.own xs)) : ∃ a, σ[i]? = some (some (.ref a)) ∧ At z.K z.G0 (G.freeze a) S (env.set i (.val (.lst xs))) σ ∧ Rep z.K (G.freeze a) (.lst xs) (.ref a) := by
  obtain ⟨a, vs, e1, al, r⟩ := A.thaw h
  have A1 : At z.K z.G0 G S (env.set i .none) (σ.set i none) := A.setSlot (.inl rfl)
  have al1 : Alone z G (env.set i .none) (σ.set i none) a vs := ⟨al.at_, al.nf, al.nm, al.n0, fun j ho e => by
    rw [getElem?_set'] at e
    by_cases hj : i = j
    · obtain ⟨ys, ho⟩ := ho
      rw [getElem?_set', if_pos hj] at ho
      split at ho <;> cases ho
    · rw [if_neg hj] at e
      exact al.no j ho e⟩
  have A2 := A1.freeze al1
  have r2 : Rep z.K (G.freeze a) (.lst xs) (.ref a) := .lst (.inr rfl) al.at_ (r.mon mon_freeze)
  have A3 := A2.setVal (i := i) r2
  rw [List.set_set, List.set_set, list_set_self e1] at A3
  exact ⟨a, e1, A3, r2⟩
/-- a held list changed -/
theorem At.pokeOwn {xs xs' : List PV} {a : Addr} {vs' : List V} (A : At z.K z.G0 G S env σ) (h : env[i]? = some (.own xs)) (e : σ[i]? = some (some (.ref a))) (r : RepL z.K G xs' vs') :
    Mon G ⟨G.m, G.fz, upd G.H a (.lst vs'), G.T⟩ ∧ At z.K z.G0 ⟨G.m, G.fz, upd G.H a (.lst vs'), G.T⟩ S (env.set i (.own xs')) σ := by
  obtain ⟨b, vs, e1, e2, r1, n1, n2⟩ := A.en.own i xs h
  rw [e] at e1
  cases e1
  have M : Mon G ⟨G.m, G.fz, upd G.H a (.lst vs'), G.T⟩ := ⟨⟨[], by simp⟩, fun c hc => ⟨hc, upd_ne (fun z => n1 (by rw [← z]; exact hc))⟩⟩
  have n0 := A.mine i a ⟨xs, h⟩ e
  have iown : ∀ j, IsOwn (env.set i (.own xs')) j → IsOwn env j := fun j ⟨ys, q⟩ => by
    rw [getElem?_set'] at q
    by_cases hj : i = j
    · subst hj; exact ⟨xs, h⟩
    · rw [if_neg hj] at q; exact ⟨ys, q⟩
  refine ⟨M, ⟨A.st.len, A.st.nd, A.st.nf, fun j c o h1 h2 => ?_⟩, ⟨by rw [List.length_set]; exact A.en.len, fun j p q => ?_, fun j ys q => ?_, fun j b d w q => ?_, fun j k c h1 h2 q1 q2 => A.en.dis j k c (iown j h1) (iown k h2) q1 q2⟩, ⟨A.ent.pre, A.ent.new, A.ent.fz, A.ent.fzn, fun c o h1 nt h2 => ?_, fun c hc => ?_, A.ent.T, fun h => tabs_poke e2 (A.ent.tb h)⟩, fun j c h1 q => A.mine j c (iown j h1) q, fun c hc => ?_⟩
  · have q := A.st.ob j c o h1 h2
    have hne : c ≠ a := fun z => n2 (by rw [← z]; exact List.mem_of_getElem? h1)
    show RepO z.K _ o (upd G.H a (.lst vs') c)
    rw [upd_ne hne]
    exact q.mono M
  · rw [getElem?_set'] at q
    by_cases hj : i = j
    · rw [if_pos hj] at q
      split at q <;> cases q
    · rw [if_neg hj] at q
      obtain ⟨v, q1, q2⟩ := A.en.val j p q
      exact ⟨v, q1, q2.mon M⟩
  · rw [getElem?_set'] at q
    by_cases hj : i = j
    · subst hj
      rw [if_pos rfl] at q
      split at q
      · cases q
        exact ⟨a, vs', e, upd_same, r.mon M, n1, n2⟩
      · cases q
    · rw [if_neg hj] at q
      obtain ⟨c, ws, q1, q2, q3, q4, q5⟩ := A.en.own j ys q
      have hne : c ≠ a := fun z => hj (A.en.dis i j a ⟨xs, h⟩ ⟨ys, q⟩ e (by rw [q1, z]))
      exact ⟨c, ws, q1, (upd_ne hne).trans q2, q3.mon M, q4, q5⟩
  · rw [getElem?_set'] at q
    by_cases hj : i = j
    · rw [if_pos hj] at q
      split at q <;> cases q
    · rw [if_neg hj] at q
      obtain ⟨q1, q2, v, q3, q4⟩ := A.en.exc j b d w q
      have hne : d ≠ a := fun z => n1 (by rw [← z]; exact q2)
      exact ⟨q1, q2, v, (upd_ne hne).trans q3, q4.mon M⟩
  · have hne : c ≠ a := fun z => by rw [z] at h1; exact n0.no h1 nt
    exact (upd_ne hne).trans (A.ent.keep c o h1 nt h2)
  · exact A.ent.there c (nu_poke hc)
  · have hne : c ≠ a := fun z => n1 (by rw [← z]; exact hc)
    obtain ⟨o, q, nt⟩ := A.sure c hc
    exact ⟨o, (upd_ne hne).trans q, nt⟩
/-- a shared list changed -/
theorem At.poke {xs' : List PV} {xs : List PV} {a : Addr} {vs' : List V} (A : At z.K z.G0 G S env σ) (hm : G.m[n]? = some a) (h : S[n]? = some (.lst xs)) (r : RepL z.K G xs' vs') :
    Mon G ⟨G.m, G.fz, upd G.H a (.lst vs'), G.T⟩ ∧ At z.K z.G0 ⟨G.m, G.fz, upd G.H a (.lst vs'), G.T⟩ (S.set n (.lst xs')) env σ := by
  have ham : a ∈ G.m := List.mem_of_getElem? hm
  have n1 := A.st.nf a ham
  obtain ⟨vs0, ea, _⟩ : RepO z.K G (.lst xs) (G.H a) := A.st.ob n a _ hm h
  have M : Mon G ⟨G.m, G.fz, upd G.H a (.lst vs'), G.T⟩ := ⟨⟨[], by simp⟩, fun c hc => ⟨hc, upd_ne (fun z => n1 (by rw [← z]; exact hc))⟩⟩
  refine ⟨M, ⟨by rw [List.length_set]; exact A.st.len, A.st.nd, A.st.nf, fun j c o h1 h2 => ?_⟩, A.en.over M fun j c ho e => ?_, ⟨A.ent.pre, A.ent.new, A.ent.fz, A.ent.fzn, fun c o h1 nt h2 => ?_, fun c hc => ?_, A.ent.T, fun h => tabs_poke ea (A.ent.tb h)⟩, A.mine, fun c hc => ?_⟩
  · rw [getElem?_set'] at h2
    by_cases hj : n = j
    · subst hj
      rw [if_pos rfl] at h2
      have e : c = a := by
        have : G.m[n]? = some c := h1
        rw [hm] at this
        exact (Option.some.inj this).symm
      split at h2
      · cases h2
        subst e
        exact ⟨vs', upd_same, r.mon M⟩
      · cases h2
    · rw [if_neg hj] at h2
      have hne : c ≠ a := fun z => hj (by
        have h1' : G.m[j]? = some c := h1
        obtain ⟨l1, q1⟩ := List.getElem?_eq_some_iff.mp hm
        obtain ⟨l2, q2⟩ := List.getElem?_eq_some_iff.mp h1'
        exact (List.getElem_inj A.st.nd).mp (by rw [q1, q2, z]))
      show RepO z.K _ o (upd G.H a (.lst vs') c)
      rw [upd_ne hne]
      exact (A.st.ob j c o h1 h2).mono M
  · obtain ⟨ys, ho⟩ := ho
    obtain ⟨b, ws, q1, q2, _, q4, q5⟩ := A.en.own j ys ho
    rw [e] at q1
    cases q1
    exact ⟨upd_ne (fun z => q5 (by rw [z]; exact ham)), q4, q5⟩
  · have hne : c ≠ a := fun z => by
      rcases A.ent.new a ham with q | q
      · exact h2 (by rw [z]; exact q)
      · rw [z] at h1; exact q.no h1 nt
    exact (upd_ne hne).trans (A.ent.keep c o h1 nt h2)
  · exact A.ent.there c (nu_poke hc)
  · have hne : c ≠ a := fun z => n1 (by rw [← z]; exact hc)
    obtain ⟨o, q, nt⟩ := A.sure c hc
    exact ⟨o, (upd_ne hne).trans q, nt⟩
end
section
variable {X : Cx} {z : Zx} {pos p apos cpos : Pos}
/-- a name's value; a list that the name alone held is a value from here on -/
def dUse (i : Nat) : Cd PV := fun e s => match e[i]? with
  | some (.val p) => .ok p e s
  | some (.own xs) => .ok (.lst xs) (e.set i (.val (.lst xs))) s
  | _ => .bad
theorem me_use (i : Nat) {x : Str} (hN : X.N[i]? = some x := by rfl) (hv : Vis X.env.scope x := by first | exact Or.inl rfl | exact Or.inr (Or.inl rfl) | exact Or.inr (Or.inr rfl)) (hd : (x == ("__debug__" : Str)) = false := by decide)
    (hcd : (x == ("__classdict__" : Str)) = false := by decide) : ME X z (.Name x pos) (dUse i) := by
  refine (pe_var hN hv hd hcd).imp fun σ H Q ⟨G, env, S, e, A, P⟩ => ?_
  unfold dUse at P
  subst e
  cases q : env[i]? with
  | none => rw [q] at P; exact P.elim
  | some s =>
    rw [q] at P
    cases s with
    | none => exact P.elim
    | exc a d w => exact P.elim
    | val p =>
      obtain ⟨v, e1, r⟩ := A.en.val i p q
      exact ⟨v, e1, P v G (Mon.refl G) A r⟩
    | own xs =>
      obtain ⟨a, e1, A1, r⟩ := A.soft q
      exact ⟨_, e1, P (.ref a) (G.freeze a) mon_freeze A1 r⟩
/-! ### methods of lists -/
def MthD (X : Cx) (id : String) (mf : List PV → List PV → Option (PV × List PV)) : Prop :=
  ∃ r : V → List V → Hp → VK → Prop, MtR X id r ∧ ∀ (K : PySem.W.Frag) (G : Wd) (a : Addr) (vs : List V) (xs ps : List PV) (ws : List V) (w : PV) (xs' : List PV) (Q : VK), mf xs ps = some (w, xs') → G.H a = some (.lst vs) → RepL K G xs vs → RepL K G ps ws →
    (∀ v vs', Rep K G w v → RepL K G xs' vs' → Q v (upd G.H a (.lst vs'))) → r (.ref a) ws G.H Q
def mAppend : List PV → List PV → Option (PV × List PV) := fun xs ps => match ps with
  | [p] => if xs.length < sizeLine then some (.non, xs ++ [p]) else none
  | _ => none
theorem m_append : MthD X "list.append" mAppend := by
  refine ⟨_, mt_append, fun K G a vs xs ps ws w xs' Q h ha r rp k => ?_⟩
  match ps, h with
  | [p], h =>
    obtain ⟨v, rfl, r1⟩ := repL1 rp
    simp only [mAppend] at h
    split at h
    · rename_i hl
      cases h
      exact ⟨a, vs, v, rfl, rfl, ha, by rw [← r.length]; exact hl, k _ _ .non (r.snoc r1)⟩
    · cases h
def mPopAt : List PV → List PV → Option (PV × List PV) := fun xs ps => match ps with
  | [.int i] => if -1048576 < i ∧ i < 1048576 then (match ixN xs.length i with
    | some j => (xs[j]?).map fun p => (p, xs.eraseIdx j)
    | none => none) else none
  | _ => none
theorem m_popAt : MthD X "list.pop" mPopAt := by
  refine ⟨_, mt_popAt, fun K G a vs xs ps ws w xs' Q h ha r rp k => ?_⟩
  match ps, h with
  | [.int i], h =>
    obtain ⟨v, rfl, r1⟩ := repL1 rp
    cases r1
    simp only [mPopAt] at h
    split at h
    · rename_i hl
      cases e : ixN xs.length i with
      | none => rw [e] at h; cases h
      | some j =>
        rw [e] at h
        obtain ⟨h1, h2, h3, h4⟩ := ixN_seq e
        cases e2 : xs[j]? with
        | none => simp only [e2] at h; cases h
        | some p =>
          simp only [e2, Option.map_some] at h
          cases h
          obtain ⟨v, e3, r3⟩ := r.get e2
          have e63 : (2 : Int) ^ 63 = 9223372036854775808 := by decide
          exact ⟨a, vs, i, j, v, rfl, rfl, ha, by rw [e63]; omega, by rw [e63]; omega, by rw [← r.length]; exact h1, e3, k v _ r3 (r.erase j)⟩
    · cases h
def mExtend : List PV → List PV → Option (PV × List PV) := fun xs ps => match ps with
  | [.lst ys] => if xs.length + ys.length ≤ sizeLine then some (.non, xs ++ ys) else none
  | _ => none
theorem m_extend : MthD X "list.extend" mExtend := by
  refine ⟨_, mt_extend, fun K G a vs xs ps ws w xs' Q h ha r rp k => ?_⟩
  match ps, h with
  | [.lst ys], h =>
    obtain ⟨v, rfl, r1⟩ := repL1 rp
    obtain ⟨b, us, rfl, q, r2⟩ := r1.sqL
    simp only [mExtend] at h
    split at h
    · rename_i hl
      cases h
      exact ⟨a, b, vs, us, rfl, rfl, ha, q, by rw [← r.length, ← r2.length]; exact hl, k _ _ .non (r.append r2)⟩
    · cases h
variable {o e : Expr} {es : List Expr} {da : Cd (List PV)} {d : Cd PV} {name : Str} {id : String} {mf : List PV → List PV → Option (PV × List PV)}
/-- x.m(..), x a list that its name alone holds -/
def dMthO (i : Nat) (mf : List PV → List PV → Option (PV × List PV)) (da : Cd (List PV)) : Cd PV := fun e s => match e[i]? with
  | some (.own _) => bnd da (fun ps => fun e s => match e[i]? with
    | some (.own xs) => match mf xs ps with
      | some (w, xs') => .ok w (e.set i (.own xs')) s
      | none => .bad
    | _ => .bad) e s
  | _ => .bad
theorem me_mthO (i : Nat) {x : Str} {slot : PySem.Slot "list" name id} (M : MthD X id mf) (hty : typeOf (.builtin id) = pure (.type "method_descriptor")) (ha : MA X z (e :: es) da)
    (hN : X.N[i]? = some x := by rfl) (hv : Vis X.env.scope x := by first | exact Or.inl rfl | exact Or.inr (Or.inl rfl) | exact Or.inr (Or.inr rfl)) (hd : (x == ("__debug__" : Str)) = false := by decide)
    (hcd : (x == ("__classdict__" : Str)) = false := by decide)
    (hbase : attributeBase (.Name x p) name X.env (eval (.Name x p) X.env) = eval (.Name x p) X.env := by rfl)
    (hfew : ((backTo cpos (starEach (e :: es) X.env)).all (fun x => !x.1) && (backToKw cpos (keywordEach [] X.env)).all (fun x => x.1.isSome)
      && decide ((e :: es).length + ([] : List Keyword).length + (if ([] : List Keyword).isEmpty then 0 else 1) < 30)) = true := by rfl)
    (hline : (apos.endLine == cpos.line) = true := by rfl) (hs : starEach (e :: es) X.env = (false, eval e X.env) :: starEach es X.env := by rfl) (hplain : (backTo cpos (starEach es X.env)).any (·.1) = false := by rfl) :
    ME X z (.Call (.Attribute (.Name x p) name apos) (e :: es) [] cpos) (dMthO i mf da) := by
  obtain ⟨r, hm, k⟩ := M
  refine (pe_bm PySem.F.plainAttrs_list slot hty hm (pe_var hN hv hd hcd) ha hbase hfew hline hs hplain).imp fun σ H Q ⟨G, env, S, e, A, P⟩ => ?_
  subst e
  unfold dMthO at P
  cases q : env[i]? with
  | none => simp only [q] at P; exact P.elim
  | some sl =>
    cases sl with
    | none => simp only [q] at P; exact P.elim
    | exc a d w => simp only [q] at P; exact P.elim
    | val p => simp only [q] at P; exact P.elim
    | own xs =>
      simp only [q] at P
      obtain ⟨a, vs, e1, e2, _⟩ := A.en.own i xs q
      refine ⟨.ref a, e1, .inl ⟨rfl, vs, SqL.of e2⟩, ?_⟩
      refine toA lwE A P fun ps env1 S1 ws G1 m1 A1 r1 P1 => ?_
      cases q1 : env1[i]? with
      | none => simp only [q1] at P1; exact P1.elim
      | some sl =>
        cases sl with
        | none => simp only [q1] at P1; exact P1.elim
        | val p => simp only [q1] at P1; exact P1.elim
        | exc a d w => simp only [q1] at P1; exact P1.elim
        | own ys =>
          simp only [q1] at P1
          cases e : mf ys ps with
          | none => simp only [e] at P1; exact P1.elim
          | some wx =>
            obtain ⟨w, xs'⟩ := wx
            simp only [e] at P1
            obtain ⟨b, us, f1, f2, f3, _⟩ := A1.en.own i ys q1
            rw [e1] at f1
            cases f1
            refine k z.K G1 a us ys ps ws w xs' Q e f2 f3 r1 fun v vs' rv rx => ?_
            obtain ⟨M, A2⟩ := A1.pokeOwn q1 e1 rx
            exact P1 v _ M A2 (rv.mon M)
/-- o.m(..), o a shared list -/
def dMthR (mf : List PV → List PV → Option (PV × List PV)) (d : Cd PV) (da : Cd (List PV)) : Cd PV := bnd d fun p => match p with
  | .ref n => fun e s => match s[n]? with
    | some (.lst _) => bnd da (fun ps => fun e s => match s[n]? with
      | some (.lst xs) => match mf xs ps with
        | some (w, xs') => .ok w e (s.set n (.lst xs'))
        | none => .bad
      | none => .bad) e s
    | none => .bad
  | _ => fun _ _ => .bad
theorem me_mthR {slot : PySem.Slot "list" name id} (M : MthD X id mf) (hty : typeOf (.builtin id) = pure (.type "method_descriptor")) (ho : ME X z o d) (ha : MA X z (e :: es) da) (hK : z.K = X.K := by rfl)
    (hbase : attributeBase o name X.env (eval o X.env) = eval o X.env := by rfl)
    (hfew : ((backTo cpos (starEach (e :: es) X.env)).all (fun x => !x.1) && (backToKw cpos (keywordEach [] X.env)).all (fun x => x.1.isSome)
      && decide ((e :: es).length + ([] : List Keyword).length + (if ([] : List Keyword).isEmpty then 0 else 1) < 30)) = true := by rfl)
    (hline : (apos.endLine == cpos.line) = true := by rfl) (hs : starEach (e :: es) X.env = (false, eval e X.env) :: starEach es X.env := by rfl) (hplain : (backTo cpos (starEach es X.env)).any (·.1) = false := by rfl) :
    ME X z (.Call (.Attribute o name apos) (e :: es) [] cpos) (dMthR mf d da) := by
  obtain ⟨r, hm, k⟩ := M
  refine (pe_bm PySem.F.plainAttrs_list slot hty hm ho ha hbase hfew hline hs hplain).imp fun σ H Q ⟨G, env, S, e, A, P⟩ => ?_
  subst e
  refine toE lwE A P fun p env1 S1 v G1 m1 A1 r1 P1 => ?_
  cases p with
  | ref n =>
    cases q : S1[n]? with
    | none => simp only [q] at P1; exact P1.elim
    | some so =>
      cases so with
      | lst xs =>
        simp only [q] at P1
        obtain ⟨a, vs, rfl, hmn, e2, _⟩ := r1.sqR A1.st q
        refine ⟨.inl ⟨rfl, vs, SqL.of e2⟩, ?_⟩
        refine toA lwE A1 P1 fun ps env2 S2 ws G2 m2 A2 r2 P2 => ?_
        cases q2 : S2[n]? with
        | none => simp only [q2] at P2; exact P2.elim
        | some so =>
          cases so with
          | lst ys =>
            simp only [q2] at P2
            cases e : mf ys ps with
            | none => simp only [e] at P2; exact P2.elim
            | some wx =>
              obtain ⟨w, xs'⟩ := wx
              simp only [e] at P2
              obtain ⟨b, us, eb, hm2, f2, f3⟩ := (r1.mon m2).sqR A2.st q2
              cases eb
              refine k z.K G2 a us ys ps ws w xs' Q e f2 f3 r2 fun v vs' rv rx => ?_
              obtain ⟨M, A3⟩ := A2.poke hm2 q2 rx
              exact P2 v _ M A3 (rv.mon M)
  | _ => exact P1.elim
/-! ### o[i] = e -/
variable {oi ei : Expr} {di dv : Cd PV}
/-- x[k] = v, x a list that its name alone holds -/
def dSetO (i : Nat) (di dv : Cd PV) : Cd Flw := bnd dv fun w => fun e s => match e[i]? with
  | some (.own _) => bnd di (fun k => fun e s => match e[i]?, k with
    | some (.own xs), .int k => match ixN xs.length k with
      | some j => .ok .next (e.set i (.own (xs.set j w))) s
      | none => .bad
    | _, _ => .bad) e s
  | _ => .bad
theorem ms_setO (i : Nat) {x : Str} {tpos : Pos} (hv : ME X z ei dv) (hi : ME X z oi di)
    (hN : X.N[i]? = some x := by rfl) (hvis : Vis X.env.scope x := by first | exact Or.inl rfl | exact Or.inr (Or.inl rfl) | exact Or.inr (Or.inr rfl)) (hd : (x == ("__debug__" : Str)) = false := by decide)
    (hcd : (x == ("__classdict__" : Str)) = false := by decide)
    (ha : ∀ v, assign (.Subscript (.Name x p) oi tpos) X.env v = (do
      let ov ← holding [v] (eval (.Name x p) X.env)
      let iv ← holding [v, ov] (eval oi X.env)
      standAt tpos
      holding [v, ov, iv] (setItem ov iv v)
      release [v, ov, iv] []) := by intro _; rfl)
    (hs : swapsWithSole [.Subscript (.Name x p) oi tpos] ei pos.line X.env = pure false := by rfl) (hw : swappedStores [.Subscript (.Name x p) oi tpos] ei X.env = pure none := by rfl)
    (h1 : (assignEach [.Subscript (.Name x p) oi tpos] X.env).map (·.2) = [assign (.Subscript (.Name x p) oi tpos) X.env] := by rfl) :
    MS X z (.Assign [.Subscript (.Name x p) oi tpos] ei pos) (dSetO i di dv) := by
  refine PS.imp (ps_asg hv (pg_sub (pe_var hN hvis hd hcd) hi set_list ha) hs hw h1) fun D σ H ⟨G, env, S, e, A, P⟩ => ?_
  subst e
  refine toE lwS A P fun w env1 S1 v G1 m1 A1 r1 P1 => ?_
  cases q : env1[i]? with
  | none => simp only [q] at P1; exact P1.elim
  | some sl =>
    cases sl with
    | none => simp only [q] at P1; exact P1.elim
    | val _ => simp only [q] at P1; exact P1.elim
    | exc a d w => simp only [q] at P1; exact P1.elim
    | own ys =>
      simp only [q] at P1
      obtain ⟨a, ws, ea, _⟩ := A1.en.own i ys q
      refine ⟨.ref a, ea, ?_⟩
      refine toE lwS A1 P1 fun k env2 S2 y G2 m2 A2 r2 P2 => ?_
      cases q2 : env2[i]? with
      | none => simp only [q2] at P2; exact P2.elim
      | some sl =>
        cases sl with
        | none => simp only [q2] at P2; exact P2.elim
        | val _ => simp only [q2] at P2; exact P2.elim
        | exc a d w => simp only [q2] at P2; exact P2.elim
        | own xs =>
          cases k with
          | int k =>
            simp only [q2] at P2
            cases r2
            cases e : ixN xs.length k with
            | none => simp only [e] at P2; exact P2.elim
            | some j =>
              simp only [e] at P2
              obtain ⟨b, us, f1, f2, f3, _⟩ := A2.en.own i xs q2
              rw [ea] at f1
              cases f1
              obtain ⟨M, A3⟩ := A2.pokeOwn q2 ea (f3.set j (r1.mon m2))
              exact ⟨a, us, k, j, rfl, rfl, f2, by rw [← f3.length]; exact e, P2 σ _ M A3⟩
          | _ => simp only [q2] at P2; exact P2.elim
/-- o[k] = v, o a shared list -/
def dSetR (d di dv : Cd PV) : Cd Flw := bnd dv fun w => bnd d fun p => bnd di fun k => fun e s => match p, k with
  | .ref n, .int k => match s[n]? with
    | some (.lst xs) => match ixN xs.length k with
      | some j => .ok .next e (s.set n (.lst (xs.set j w)))
      | none => .bad
    | none => .bad
  | _, _ => .bad
theorem ms_setR {tpos : Pos} (hv : ME X z ei dv) (ho : ME X z o d) (hi : ME X z oi di) (hK : z.K = X.K := by rfl)
    (ha : ∀ v, assign (.Subscript o oi tpos) X.env v = (do
      let ov ← holding [v] (eval o X.env)
      let iv ← holding [v, ov] (eval oi X.env)
      standAt tpos
      holding [v, ov, iv] (setItem ov iv v)
      release [v, ov, iv] []) := by intro _; rfl)
    (hs : swapsWithSole [.Subscript o oi tpos] ei pos.line X.env = pure false := by rfl) (hw : swappedStores [.Subscript o oi tpos] ei X.env = pure none := by rfl)
    (h1 : (assignEach [.Subscript o oi tpos] X.env).map (·.2) = [assign (.Subscript o oi tpos) X.env] := by rfl) :
    MS X z (.Assign [.Subscript o oi tpos] ei pos) (dSetR d di dv) := by
  refine PS.imp (ps_asg hv (pg_sub ho hi set_list ha) hs hw h1) fun D σ H ⟨G, env, S, e, A, P⟩ => ?_
  subst e
  refine toE lwS A P fun w env1 S1 v G1 m1 A1 r1 P1 => toE lwS A1 P1 fun p env2 S2 u G2 m2 A2 r2 P2 => toE lwS A2 P2 fun k env3 S3 y G3 m3 A3 r3 P3 => ?_
  cases p with
  | ref n =>
    cases k with
    | int k =>
      cases r3
      cases q : S3[n]? with
      | none => simp only [q] at P3; exact P3.elim
      | some so =>
        cases so with
        | lst xs =>
          simp only [q] at P3
          cases e : ixN xs.length k with
          | none => simp only [e] at P3; exact P3.elim
          | some j =>
            simp only [e] at P3
            obtain ⟨a, us, rfl, hm, f2, f3⟩ := (r2.mon m3).sqR A3.st q
            obtain ⟨M, A4⟩ := A3.poke hm q (f3.set j (r1.mon (m2.trans m3)))
            exact ⟨a, us, k, j, rfl, rfl, f2, by rw [← f3.length]; exact e, P3 σ _ M A4⟩
    | _ => exact P3.elim
  | _ => cases k <;> exact P3.elim
/-! ### what a for walks -/
variable {tg : Expr}
theorem enum_list {K : PySem.W.Frag} {G : Wd} {a : Addr} {vs : List V} {ps : List PV} (r : RepL K G ps vs) (h : ∀ G1, Mon G G1 → SqL K G1.H a vs) : Enum K (Itl K a) G ps :=
  ⟨fun i G1 M hl => ⟨vs, h G1 M, by rw [← r.length]; exact hl⟩, fun i p G1 M su e => by
    obtain ⟨v, e1, r1⟩ := r.get e
    refine ⟨⟨vs, v, h G1 M, e1⟩, fun x H' y => ⟨G1, y.1.symm, .refl G1, su, ?_⟩⟩
    have := y.2 vs (h G1 M)
    rw [e1] at this
    cases this
    exact r1.mon M⟩
theorem enum_tup {K : PySem.W.Frag} {G : Wd} {a : Addr} {vs : List V} {ps : List PV} (r : RepL K G ps vs) (h : ∀ G1, Mon G G1 → SqT K G1.H a vs) : Enum K (Itt K a) G ps :=
  ⟨fun i G1 M hl => ⟨vs, h G1 M, by rw [← r.length]; exact hl⟩, fun i p G1 M su e => by
    obtain ⟨v, e1, r1⟩ := r.get e
    refine ⟨⟨vs, v, h G1 M, e1⟩, fun x H' y => ⟨G1, y.1.symm, .refl G1, su, ?_⟩⟩
    have := y.2 vs (h G1 M)
    rw [e1] at this
    cases this
    exact r1.mon M⟩
/-- a frozen list or tuple's items, wherever it is read -/
def itemsF : PV → Option (List PV)
  | .tup xs => some xs
  | .lst xs => some xs
  | .scr ns => some (ns.map PV.int)
  | _ => none
theorem itemsF_rep {K : PySem.W.Frag} {G : Wd} {p : PV} {xs : List PV} {v : V} (h : itemsF p = some xs) (r : Rep K G p v) :
    ∃ a vs, v = .ref a ∧ RepL K G xs vs ∧ ((∀ G1, Mon G G1 → SqL K G1.H a vs) ∨ (∀ G1, Mon G G1 → SqT K G1.H a vs)) := by
  cases p with
  | tup ys =>
    cases h
    cases r with
    | tup hh rr =>
      refine ⟨_, _, rfl, rr, .inr fun G1 M => ?_⟩
      exact (hh.mon M).sq
  | lst ys =>
    cases h
    cases r with
    | lst h1 h2 rr => exact ⟨_, _, rfl, rr, .inl fun G1 M => SqL.of (((M.fz _ h1).2).trans h2)⟩
  | scr ns =>
    cases h
    obtain ⟨a, rfl, q⟩ := r.scrM
    exact ⟨a, _, rfl, RepL.ints ns, .inl q⟩
  | _ => cases h
def dItems (d : Cd PV) : Cd (List PV) := bnd d fun p => lift (itemsF p)
theorem mi_val (he : ME X z e d) (hK : z.K = X.K := by rfl) : MI X z tg e (dItems d) := by
  refine PI.imp (PI.or (pi_list he) (pi_tup he)) fun σ H R ⟨G, env, S, e, A, P⟩ => ?_
  subst e
  unfold dItems bnd at P
  cases e : d env S with
  | bad => rw [e] at P; exact P.elim
  | raise c w e1 s1 =>
    rw [e] at P
    exact .inl ⟨G, env, S, rfl, A, by rw [e]; exact P⟩
  | ok p env1 S1 =>
    rw [e] at P
    unfold lift Out.bind at P
    cases q : itemsF p with
    | none => simp only [q] at P; exact P.elim
    | some xs =>
      simp only [q] at P
      by_cases ht : ∃ ys, p = .tup ys
      · obtain ⟨ys, rfl⟩ := ht
        cases q
        refine .inr ⟨G, env, S, rfl, A, ?_⟩
        rw [e]
        intro v G1 m1 A1 r1
        obtain ⟨a, vs, rfl, hq, rr⟩ := r1.sqT
        cases r1 with
        | tup hh rr' =>
          have hst : ∀ G2, Mon G1 G2 → SqT z.K G2.H a _ := fun G2 M => (hh.mon M).sq
          refine ⟨a, rfl, ⟨_, by rw [← hK]; exact hst G1 (Mon.refl _)⟩, ?_⟩
          rw [← hK]
          exact P _ G1 m1 A1 (enum_tup rr' hst)
      · refine .inl ⟨G, env, S, rfl, A, ?_⟩
        rw [e]
        intro v G1 m1 A1 r1
        obtain ⟨a, vs, rfl, rr, hst⟩ := itemsF_rep q r1
        rcases hst with hst | hst
        · refine ⟨a, rfl, ⟨vs, by rw [← hK]; exact hst G1 (Mon.refl _)⟩, ?_⟩
          rw [← hK]
          exact P _ G1 m1 A1 (enum_list rr hst)
        · cases p with
          | tup ys => exact absurd ⟨ys, rfl⟩ ht
          | lst ys =>
            cases r1 with
            | lst h1 h2 rr2 =>
              cases q
              have hst : ∀ G2, Mon G1 G2 → SqL z.K G2.H a _ := fun G2 M => SqL.of (((M.fz _ h1).2).trans h2)
              refine ⟨a, rfl, ⟨_, by rw [← hK]; exact hst G1 (Mon.refl _)⟩, ?_⟩
              rw [← hK]
              exact P _ G1 m1 A1 (enum_list rr2 hst)
          | scr ns =>
            obtain ⟨a', ea, hst⟩ := r1.scrM
            cases ea
            · cases q
              refine ⟨a, rfl, ⟨_, by rw [← hK]; exact hst G1 (Mon.refl _)⟩, ?_⟩
              rw [← hK]
              exact P _ G1 m1 A1 (enum_list (RepL.ints ns) hst)
          | _ => cases q
theorem enum_range {K : PySem.W.Frag} {G : Wd} (lo : Int) (n : Nat) : Enum K (Itr lo n) G ((List.range n).map fun (i : Nat) => PV.int (lo + i)) :=
  ⟨fun i G1 M hl => (by simpa using hl : n ≤ i), fun i p G1 M su e => by
    have hi : i < n := by
      have := (List.getElem?_eq_some_iff.mp e).1
      simpa using this
    refine ⟨hi, fun x H' y => ⟨G1, y.1.symm, .refl G1, su, ?_⟩⟩
    rw [y.2]
    have : p = .int (lo + i) := by
      rw [List.getElem?_map, List.getElem?_range hi] at e
      exact (Option.some.inj e).symm
    rw [this]
    exact .int _⟩
def okR (i : Int) : Bool := decide (-1073741824 < i) && decide (i < 1073741824)
theorem okR_b {i : Int} (h : okR i = true) : -(2 ^ 62) ≤ i ∧ i < 2 ^ 62 := by
  unfold okR at h
  simp only [Bool.and_eq_true, decide_eq_true_eq] at h
  have e : (2 : Int) ^ 62 = 4611686018427387904 := by decide
  rw [e]
  omega
/-- range(j), range(i, j) -/
def rng1 (ps : List PV) : Option (List PV) := match ps with
  | [.int j] => if okR j = true then some ((List.range j.toNat).map fun (i : Nat) => PV.int i) else none
  | _ => none
def rng2 (ps : List PV) : Option (List PV) := match ps with
  | [.int i, .int j] => if (okR i && okR j) = true then some ((List.range (j - i).toNat).map fun (k : Nat) => PV.int (i + k)) else none
  | _ => none
def dRng1 (d : Cd (List PV)) : Cd (List PV) := bnd d fun ps => lift (rng1 ps)
def dRng2 (d : Cd (List PV)) : Cd (List PV) := bnd d fun ps => lift (rng2 ps)
theorem mi_range1 {a : Expr} (hm : X.mg "range" = none) (ha : MA X z [a] da) (hg : Gl X "range" := by rfl) (hs : starEach [a] X.env = [(false, eval a X.env)] := by rfl) : MI X z tg (.Call (.Name "range" p) [a] [] pos) (dRng1 da) := by
  refine PI.imp (pi_range1 hg hm ha hs) fun σ H R ⟨G, env, S, e, A, P⟩ => ?_
  subst e
  refine toA lwI A P fun ps env1 S1 vs G1 m1 A1 r1 P1 => ?_
  unfold lift at P1
  cases e : rng1 ps with
  | none => simp only [e] at P1; exact P1.elim
  | some qs =>
    simp only [e] at P1
    match ps, e with
    | [.int j], e =>
      obtain ⟨v, rfl, r2⟩ := repL1 r1
      cases r2
      simp only [rng1] at e
      by_cases hj : okR j = true
      · rw [if_pos hj] at e
        cases e
        obtain ⟨h1, h2⟩ := okR_b hj
        refine ⟨j, rfl, h1, h2, P1 _ G1 (Mon.refl _) A1 ?_⟩
        have := enum_range (K := z.K) (G := G1) 0 j.toNat
        simpa using this
      · rw [if_neg hj] at e
        cases e
theorem mi_range2 {a b : Expr} (hm : X.mg "range" = none) (ha : MA X z [a, b] da) (hg : Gl X "range" := by rfl) (hs : starEach [a, b] X.env = [(false, eval a X.env), (false, eval b X.env)] := by rfl) (hs2 : starEach [b] X.env = [(false, eval b X.env)] := by rfl) : MI X z tg (.Call (.Name "range" p) [a, b] [] pos) (dRng2 da) := by
  refine PI.imp (pi_range2 hg hm ha hs hs2) fun σ H R ⟨G, env, S, e, A, P⟩ => ?_
  subst e
  refine toA lwI A P fun ps env1 S1 vs G1 m1 A1 r1 P1 => ?_
  unfold lift at P1
  cases e : rng2 ps with
  | none => simp only [e] at P1; exact P1.elim
  | some qs =>
    simp only [e] at P1
    match ps, e with
    | [.int i, .int j], e =>
      obtain ⟨v, w, rfl, r2, r3⟩ := repL2 r1
      cases r2
      cases r3
      simp only [rng2] at e
      by_cases hj : (okR i && okR j) = true
      · rw [if_pos hj] at e
        cases e
        rw [Bool.and_eq_true] at hj
        obtain ⟨h1, h2⟩ := okR_b hj.1
        obtain ⟨h3, h4⟩ := okR_b hj.2
        exact ⟨i, j, rfl, ⟨h1, h2, h3, h4⟩, P1 _ G1 (Mon.refl _) A1 (enum_range i (j - i).toNat)⟩
      · rw [if_neg hj] at e
        cases e
/-- zip of two lists, of two tuples -/
def isT : PV → Bool
  | .tup _ => true
  | _ => false
def zip2 (ps : List PV) : Option (List PV) := match ps with
  | [p, q] => match itemsF p, itemsF q with
    | some xs, some ys => if isT p = isT q then some ((xs.zip ys).map fun c => PV.tuz [c.1, c.2]) else none
    | _, _ => none
  | _ => none
def dZip (d : Cd (List PV)) : Cd (List PV) := bnd d fun ps => lift (zip2 ps)
theorem zip_get {α β : Type} : ∀ {xs : List α} {ys : List β} {i : Nat} {c : α × β}, (xs.zip ys)[i]? = some c → xs[i]? = some c.1 ∧ ys[i]? = some c.2
  | [], _, _, _, h => by simp at h
  | _ :: _, [], _, _, h => by simp at h
  | x :: xs, y :: ys, 0, c, h => by
    simp at h
    subst h
    exact ⟨rfl, rfl⟩
  | x :: xs, y :: ys, i + 1, c, h => by
    have := zip_get (xs := xs) (ys := ys) (i := i) (c := c) (by simpa using h)
    simpa using this
theorem pair_new {K : PySem.W.Frag} {G1 : Wd} {T : Addr} {x y : V} {p q : PV} (su : Sure G1) (hn : G1.H T = none) (r1 : Rep K G1 p x) (r2 : Rep K G1 q y) : Ext G1 (G1.frozen T (.tup [x, y])) ∧ Sure (G1.frozen T (.tup [x, y])) ∧ Rep K (G1.frozen T (.tup [x, y])) (.tuz [p, q]) (.ref T) := by
  have M : Mon G1 (G1.frozen T (.tup [x, y])) := (Ext.frozen hn).mon su
  exact ⟨Ext.frozen hn, sure_frozen su hn, .tuz (.inr rfl) upd_same (.cons (r1.mon M) (.cons (r2.mon M) .nil))⟩
/-- enumerate of a list -/
def enumL (ps : List PV) : List PV := (ps.zipIdx).map fun c => PV.tuz [.int c.2, c.1]
end
end FS
set_option Elab.async false
set_option linter.all false
set_option maxRecDepth 100000
/-! FsComp: list comprehensions. -/
namespace FS
open PySem PySem.Spec L2
/-! ### the frame's own things put aside -/
/-- the world as it stands, without what the frame alone holds -/
noncomputable def Wd.less (G : Wd) (env : Env) (σ : St) : Wd := ⟨G.m, G.fz, open Classical in fun a => if ∃ i, IsOwn env i ∧ σ[i]? = some (some (.ref a)) then none else G.H a, G.T⟩
section
variable {K : PySem.W.Frag} {G0 G G2 : Wd} {env env2 : Env} {S S2 : Stt} {σ σ2 : St}
theorem less_of {a : Addr} {o : HO} (h : (G.less env σ).H a = some o) : G.H a = some o ∧ ¬ ∃ i, IsOwn env i ∧ σ[i]? = some (some (.ref a)) := by
  unfold Wd.less at h
  simp only at h
  split at h
  · cases h
  · exact ⟨h, by assumption⟩
theorem less_none {a : Addr} (h : (G.less env σ).H a = none) : G.H a = none ∨ ∃ i, IsOwn env i ∧ σ[i]? = some (some (.ref a)) := by
  unfold Wd.less at h
  simp only at h
  split at h
  · exact .inr (by assumption)
  · exact .inl h
theorem less_same {a : Addr} (h : ¬ ∃ i, IsOwn env i ∧ σ[i]? = some (some (.ref a))) : (G.less env σ).H a = G.H a := by
  unfold Wd.less
  simp only
  rw [if_neg h]
theorem less_nu {a : Addr} (h : Nu (G.less env σ).H a) : Nu G.H a ∨ ∃ i, IsOwn env i ∧ σ[i]? = some (some (.ref a)) := by
  rcases h with h | ⟨ps, h⟩
  · exact (less_none h).imp .inl id
  · exact .inl (.inr ⟨ps, (less_of h).1⟩)
theorem At.aside (A : At K G0 G S env σ) : At K (G.less env σ) G S env σ := by
  have up : ∀ a o, (G.less env σ).H a = some o → G.H a = some o := fun a o h => (less_of h).1
  refine ⟨A.st, A.en, ⟨⟨[], by show G.m = G.m ++ []; simp⟩, fun a h => .inl h, fun a h => h, fun a h => .inl h, fun a o h _ _ => up a o h, fun a h => ?_, rfl, fun h p hp => (h p hp).ext up⟩, fun i a ho e => ?_, A.sure⟩
  · by_cases q : ∃ i, IsOwn env i ∧ σ[i]? = some (some (.ref a))
    · unfold Wd.less
      refine .inl ?_
      simp only
      rw [if_pos q]
    · rcases h with h | ⟨ps, h⟩
      · exact .inl (by rw [less_same q]; exact h)
      · exact .inr ⟨ps, by rw [less_same q]; exact h⟩
  · unfold Wd.less
    refine .inl ?_
    simp only
    rw [if_pos ⟨i, ho, e⟩]
theorem At.back (A : At K G0 G S env σ) (B : At K (G.less env σ) G2 S2 env2 σ2) : At K G0 G2 S2 env2 σ2 := by
  have up : ∀ a, Nu (G.less env σ).H a → Nu G0.H a := fun a h => by
    rcases less_nu h with h | ⟨i, ho, e⟩
    · exact A.ent.there a h
    · exact A.mine i a ho e
  have own : ∀ a o, G.H a = some o → (∀ vs, o ≠ .lst vs) → (G.less env σ).H a = some o := fun a o h hl => by
    rw [less_same]
    · exact h
    · intro ⟨i, ho, e⟩
      obtain ⟨xs, ho⟩ := ho
      obtain ⟨b, vs, e1, e2, _⟩ := A.en.own i xs ho
      rw [e] at e1; cases e1
      rw [h] at e2
      exact hl vs (Option.some.inj e2)
  refine ⟨B.st, B.en, ⟨?_, fun a h => ?_, fun a h => B.ent.fz a (A.ent.fz a h), fun a h => ?_, fun a o h nt hm => ?_, fun a h => up a (B.ent.there a h), B.ent.T.trans A.ent.T, fun h => ?_⟩, fun i a ho e => up a (B.mine i a ho e), B.sure⟩
  · obtain ⟨r, e⟩ := A.ent.pre
    obtain ⟨r', e'⟩ := B.ent.pre
    exact ⟨r ++ r', by rw [e']; show G.m ++ r' = _; rw [e, List.append_assoc]⟩
  · rcases B.ent.new a h with h | h
    · exact A.ent.new a h
    · exact .inr (up a h)
  · rcases B.ent.fzn a h with h | h
    · exact A.ent.fzn a h
    · exact .inr (up a h)
  · have h1 := A.ent.keep a o h nt hm
    have h2 : ¬ ∃ i, IsOwn env i ∧ σ[i]? = some (some (.ref a)) := fun ⟨i, ho, e⟩ => (A.mine i a ho e).no h nt
    refine B.ent.keep a o (by rw [less_same h2]; exact h1) nt fun h3 => ?_
    rcases A.ent.new a h3 with q | q
    · exact hm q
    · exact q.no h nt
  · have q := A.ent.tb h
    rw [← A.ent.T] at q ⊢
    refine B.ent.tb fun p hp => ?_
    obtain ⟨ps, h1, h2, h3⟩ := q p hp
    refine ⟨ps, own _ _ h1 (fun vs e => by cases e), h2, fun pos cv hc => ?_⟩
    obtain ⟨c, e1, e2⟩ := h3 pos cv hc
    exact ⟨c, e1, own _ _ e2 (fun vs e => by cases e)⟩
end
/-! ### the block's own names -/
def wipeE (env : Env) : List Nat → Env
  | [] => env
  | v :: vs => (wipeE env vs).set v .none
def keepS : Option Slot → Slot
  | some (.val p) => .val p
  | _ => .none
def restE (e1 e2 : Env) : List Nat → Env
  | [] => e2
  | v :: vs => (restE e1 e2 vs).set v (keepS e1[v]?)
section
variable {z : Zx} {G : Wd} {env e1 e2 : Env} {S : Stt} {σ : St}
theorem wipe_at (A : At z.K z.G0 G S env σ) : ∀ vs : List Nat, At z.K z.G0 G S (wipeE env vs) (wipe σ vs)
  | [] => A
  | v :: vs => by
    unfold wipeE wipe
    exact (wipe_at A vs).setSlot (.inl rfl)
theorem wipe_get {σ : St} {i : Nat} : ∀ vs : List Nat, (wipe σ vs)[i]? = if i ∈ vs then (if i < σ.length then some none else none) else σ[i]?
  | [] => by simp [wipe]
  | v :: vs => by
    unfold wipe
    rw [getElem?_set', wipe_length, wipe_get vs]
    by_cases h : v = i
    · subst h
      simp
    · rw [if_neg h]
      have : i ≠ v := fun e => h e.symm
      simp [this]
theorem wipe_id {σ : St} (vs : List Nat) : wipe (wipe σ vs) vs = wipe σ vs := by
  apply List.ext_getElem?
  intro i
  rw [wipe_get, wipe_get, wipe_length]
  by_cases h : i ∈ vs
  · rw [if_pos h, if_pos h]
  · rw [if_neg h, if_neg h]
theorem restE_length (e1 e2 : Env) : ∀ vs : List Nat, (restE e1 e2 vs).length = e2.length
  | [] => rfl
  | v :: vs => by
    unfold restE
    rw [List.length_set, restE_length e1 e2 vs]
theorem restE_get {e1 e2 : Env} {i : Nat} : ∀ vs : List Nat, (restE e1 e2 vs)[i]? = if i ∈ vs then (if i < e2.length then some (keepS e1[i]?) else none) else e2[i]?
  | [] => by simp [restE]
  | v :: vs => by
    unfold restE
    rw [getElem?_set', restE_length, restE_get vs]
    by_cases h : v = i
    · subst h
      simp
    · rw [if_neg h]
      have : i ≠ v := fun e => h e.symm
      simp [this]
theorem keepS_own {o : Option Slot} {xs : List PV} : keepS o ≠ .own xs := by
  intro h
  cases o with
  | none => cases h
  | some s => cases s <;> cases h
theorem keepS_exc {o : Option Slot} {a d : Addr} {w : PV} : keepS o ≠ .exc a d w := by
  intro h
  cases o with
  | none => cases h
  | some s => cases s <;> cases h
theorem keepS_val {o : Option Slot} {p : PV} (h : keepS o = .val p) : o = some (.val p) := by
  cases o with
  | none => cases h
  | some s =>
    cases s with
    | val q => cases h; rfl
    | none => cases h
    | own xs => cases h
    | exc a d w => cases h
theorem rest_own {σ : St} {vs : List Nat} {i : Nat} {xs : List PV} {a : Addr} (h : (restE e1 e2 vs)[i]? = some (.own xs)) : i ∉ vs ∧ e2[i]? = some (.own xs) := by
  rw [restE_get] at h
  by_cases hi : i ∈ vs
  · rw [if_pos hi] at h
    split at h
    · exact absurd (Option.some.inj h) keepS_own
    · cases h
  · rw [if_neg hi] at h
    exact ⟨hi, h⟩
/-- behind the block the names of the frame are as they were -/
theorem rest_at {G1 : Wd} {S1 : Stt} {vs : List Nat} (A1 : At z.K z.G0 G1 S1 e1 σ) (M : Mon G1 G) (A : At z.K z.G0 G S e2 (wipe σ vs)) : At z.K z.G0 G S (restE e1 e2 vs) σ := by
  have ow : ∀ (i : Nat) (xs : List PV), (restE e1 e2 vs)[i]? = some (.own xs) → e2[i]? = some (.own xs) ∧ (wipe σ vs)[i]? = σ[i]? := fun i xs h => by
    obtain ⟨h1, h2⟩ := rest_own (σ := σ) (a := 0) h
    exact ⟨h2, by rw [wipe_get, if_neg h1]⟩
  refine ⟨A.st, ⟨by rw [restE_length, A.en.len, wipe_length], fun i p h => ?_, fun i xs h => ?_, fun i b d w h => ?_, fun i j a h1 h2 q1 q2 => ?_⟩, A.ent, fun i a h q => ?_, A.sure⟩
  · rw [restE_get] at h
    by_cases hi : i ∈ vs
    · rw [if_pos hi] at h
      split at h
      · obtain ⟨v, q1, q2⟩ := A1.en.val i p (keepS_val (Option.some.inj h))
        exact ⟨v, q1, q2.mon M⟩
      · cases h
    · rw [if_neg hi] at h
      obtain ⟨v, q1, q2⟩ := A.en.val i p h
      rw [wipe_get, if_neg hi] at q1
      exact ⟨v, q1, q2⟩
  · obtain ⟨h1, h2⟩ := ow i xs h
    obtain ⟨a, ws, q1, q⟩ := A.en.own i xs h1
    rw [h2] at q1
    exact ⟨a, ws, q1, q⟩
  · rw [restE_get] at h
    by_cases hi : i ∈ vs
    · rw [if_pos hi] at h
      split at h
      · exact absurd (Option.some.inj h) keepS_exc
      · cases h
    · rw [if_neg hi] at h
      obtain ⟨q1, q2⟩ := A.en.exc i b d w h
      rw [wipe_get, if_neg hi] at q1
      exact ⟨q1, q2⟩
  · obtain ⟨xs, h1⟩ := h1
    obtain ⟨ys, h2⟩ := h2
    obtain ⟨h1, f1⟩ := ow i xs h1
    obtain ⟨h2, f2⟩ := ow j ys h2
    exact A.en.dis i j a ⟨xs, h1⟩ ⟨ys, h2⟩ (f1.trans q1) (f2.trans q2)
  · obtain ⟨xs, h⟩ := h
    obtain ⟨h, f⟩ := ow i xs h
    exact A.mine i a ⟨xs, h⟩ (f.trans q)
/-- a list that nobody else holds, changed -/
theorem At.pokeAlone {a : Addr} {vs vs' : List V} (A : At z.K z.G0 G S env σ) (al : Alone z G env σ a vs) : Mon G ⟨G.m, G.fz, upd G.H a (.lst vs'), G.T⟩ ∧ At z.K z.G0 ⟨G.m, G.fz, upd G.H a (.lst vs'), G.T⟩ S env σ ∧ Alone z ⟨G.m, G.fz, upd G.H a (.lst vs'), G.T⟩ env σ a vs' := by
  have M : Mon G ⟨G.m, G.fz, upd G.H a (.lst vs'), G.T⟩ := ⟨⟨[], by simp⟩, fun c hc => ⟨hc, upd_ne (fun z => al.nf (by rw [← z]; exact hc))⟩⟩
  refine ⟨M, ⟨⟨A.st.len, A.st.nd, A.st.nf, fun j c o h1 h2 => ?_⟩, A.en.over M fun j c ho e => ?_, ⟨A.ent.pre, A.ent.new, A.ent.fz, A.ent.fzn, fun c o h1 nt h2 => ?_, fun c hc => ?_, A.ent.T, fun h => tabs_poke al.at_ (A.ent.tb h)⟩, A.mine, fun c hc => ?_⟩, ⟨upd_same, al.nf, al.nm, al.n0, al.no⟩⟩
  · have hne : c ≠ a := fun z => al.nm (by rw [← z]; exact List.mem_of_getElem? h1)
    show RepO z.K _ o (upd G.H a (.lst vs') c)
    rw [upd_ne hne]
    exact (A.st.ob j c o h1 h2).mono M
  · have hne : c ≠ a := fun z => al.no j ho (by rw [e, z])
    obtain ⟨ys, ho⟩ := ho
    obtain ⟨b, ws, q1, q2, _, q4, q5⟩ := A.en.own j ys ho
    rw [e] at q1
    cases q1
    exact ⟨upd_ne hne, q4, q5⟩
  · have hne : c ≠ a := fun z => by rw [z] at h1; exact al.n0.no h1 nt
    exact (upd_ne hne).trans (A.ent.keep c o h1 nt h2)
  · exact A.ent.there c (nu_poke hc)
  · have hne : c ≠ a := fun z => al.nf (by rw [← z]; exact hc)
    obtain ⟨o, q, nt⟩ := A.sure c hc
    exact ⟨o, (upd_ne hne).trans q, nt⟩
end
/-! ### the judgements of a block -/
abbrev zc (z : Zx) (G0 : Wd) : Zx := ⟨z.K, z.mg, G0, fun _ _ _ _ => False⟩
def REb (z : Zx) (d : Cd PV) : TE := fun σ H Q => ∃ G0, RE (zc z G0) d σ H Q
def RTb (z : Zx) (d : Cd Bool) : TT := fun σ H Q => ∃ G0, RT (zc z G0) d σ H Q
section
variable {X : Cx} {z : Zx} {pos p apos cpos : Pos}
abbrev MEb (X : Cx) (z : Zx) (e : Expr) (d : Cd PV) : Prop := ∀ G0, ME X (zc z G0) e d
def MTsb (X : Cx) (z : Zx) (e : List Expr) (d : Cd Bool) : Prop := PTs X e (RTb z d)
theorem mts_nil : MTsb X z [] (ret true) := ⟨fun pins s σ H Q I h => by
  obtain ⟨G0, G, env, S, e, A, P⟩ := h
  subst e
  exact pts_nil.run pins s σ _ Q I (P G (Mon.refl _) A)⟩
theorem mts_one {c : Expr} {t : Cd Bool} (h : ∀ G0, MT X (zc z G0) c t) : MTsb X z [c] t := ⟨fun pins s σ H Q I q => by
  obtain ⟨G0, q⟩ := q
  exact (pts_one (h G0)).run pins s σ H Q I q⟩
/-- a target of a block: names of the block alone -/
def PostGc (z : Zx) (G : Wd) (own : List Nat) (σ : St) (Q : St → Hp → Prop) : Out Unit → Prop
  | .ok _ env S => ∀ (σ' : St) (G' : Wd), Mon G G' → At z.K z.G0 G' S env σ' → wipe σ' own = wipe σ own → Q σ' G'.H
  | .raise c w env S => ∀ σ', PRaise z G c w env S σ'
  | .bad => False
def RGc (z : Zx) (own : List Nat) (d : PV → Cd Unit) : TG := fun v σ H Q => ∃ G0 G env S p, G.H = H ∧ At z.K G0 G S env σ ∧ Rep z.K G p v ∧ PostGc (zc z G0) G own σ Q (d p env S)
abbrev MGc (X : Cx) (z : Zx) (own : List Nat) (e : Expr) (d : PV → Cd Unit) : Prop := PG X e (RGc z own d)
theorem PostGc.later {G G1 : Wd} {own : List Nat} {σ : St} {Q : St → Hp → Prop} {o : Out Unit} (h : PostGc z G own σ Q o) (M : Mon G G1) : PostGc z G1 own σ Q o := by
  cases o with
  | ok p env S => exact fun σ' G' m a => h σ' G' (M.trans m) a
  | raise c w env S => exact fun σ' => (h σ').later M
  | bad => exact h
theorem wipe_set {σ : St} {i : Nat} {v : Option V} {own : List Nat} (h : i ∈ own) : wipe (σ.set i v) own = wipe σ own := by
  apply List.ext_getElem?
  intro j
  rw [wipe_get, wipe_get, List.length_set]
  by_cases hj : j ∈ own
  · rw [if_pos hj, if_pos hj]
  · rw [if_neg hj, if_neg hj, List.getElem?_set_ne (fun e => hj (by rw [← e]; exact h))]
theorem mgc_name (i : Nat) {x : Str} {own : List Nat} (hN : X.N.Nodup) (ho : i ∈ own := by decide) (hi : X.N[i]? = some x := by rfl) (hx : Loc X.env.scope x := by first | exact Or.inl rfl | exact Or.inr rfl) (hf : X.fn x = true ∨ X.env.scope.names.lookup x = some .local := by first | exact .inl rfl | exact .inr rfl | assumption) :
    MGc X z own (.Name x pos) (gSet i) := (pg_name hN hi hx hf).imp fun v σ H Q ⟨G0, G, env, S, p, e, A, r, P⟩ => by
  subst e
  exact P _ G (Mon.refl G) (At.setVal (z := zc z G0) A r) (wipe_set ho)
theorem toGc {β : Type} {G0 : Wd} {F : Wd → Out β → Prop} {G : Wd} {env : Env} {S : Stt} {σ : St} {own : List Nat} (L : Lw (zc z G0) F) {d : PV → Cd Unit} {p : PV} {v : V} {k : Unit → Cd β} {R : St → Hp → Prop} (A : At z.K G0 G S env σ) (r : Rep z.K G p v) (P : F G (bnd (d p) k env S))
    (h : ∀ env1 S1 σ1 G1, Mon G G1 → At z.K G0 G1 S1 env1 σ1 → wipe σ1 own = wipe σ own → F G1 (k () env1 S1) → R σ1 G1.H) : RGc z own d v σ G.H R := by
  refine ⟨G0, G, env, S, p, rfl, A, r, ?_⟩
  unfold bnd at P
  cases e : d p env S with
  | ok u env1 S1 =>
    rw [e] at P
    exact fun σ1 G1 m a w => h env1 S1 σ1 G1 m a w (L.later _ _ _ P m)
  | raise c w env1 S1 =>
    rw [e] at P
    exact L.rais _ _ _ _ _ P
  | bad =>
    rw [e] at P
    exact (L.bad _ P).elim
/-! ### the comprehension -/
def compL (own : List Nat) (g : PV → Cd Unit) (t : Cd Bool) (d : Cd PV) : List PV → List PV → Cd (List PV)
  | [], acc => ret acc
  | p :: ps, acc => bnd (g p) fun _ => bnd t fun b => if b = true then bnd d fun w => if acc.length < sizeLine then fun e s => compL own g t d ps (acc ++ [w]) (wipeE e own) s else fun _ _ => .bad
    else fun e s => compL own g t d ps acc (wipeE e own) s
def dComp (items : Cd (List PV)) (own : List Nat) (g : PV → Cd Unit) (t : Cd Bool) (d : Cd PV) : Cd (List PV) := bnd items fun ps => fun e s => match compL own g t d ps [] (wipeE e own) s with
  | .ok xs e2 s2 => .ok xs (restE e e2 own) s2
  | _ => .bad
/-- the block's end, as the frame sees it -/
def PP (z : Zx) (σ : St) (Q : VK) (env1 : Env) (own : List Nat) (G : Wd) : Out (List PV) → Prop
  | .ok xs e2 s2 => PostF z G σ Q (.ok xs (restE env1 e2 own) s2)
  | _ => False
theorem lwPP {σ : St} {Q : VK} {env1 : Env} {own : List Nat} {z' : Zx} : Lw z' (fun G o => PP z σ Q env1 own G o) := ⟨fun G G1 o h m => by
    cases o with
    | ok xs e2 s2 => exact PostF.later (z := z) (o := .ok xs (restE env1 e2 own) s2) h m
    | raise => exact h
    | bad => exact h, fun _ _ _ _ _ h => h.elim, fun _ h => h⟩
theorem comp_rd {items : Cd (List PV)} {own : List Nat} {g : PV → Cd Unit} {t : Cd Bool} {d : Cd PV} {σ : St} {H : Hp} {Q : VK} (h : RF z (dComp items own g t d) σ H Q) :
    tLc (RI z items) (RGc z own g) (RTb z t) (REb z d) own σ H Q := by
  obtain ⟨G, env, S, e, A, P⟩ := h
  subst e
  refine toI lwF A P fun ps env1 S1 J G1 m1 A1 en P1 => ?_
  intro D hD
  have A0 := wipe_at A1 own
  have start : PP z σ Q env1 own G1 (compL own g t d ps [] (wipeE env1 own) S1) := by
    cases e : compL own g t d ps [] (wipeE env1 own) S1 with
    | ok xs e2 s2 => simp only [e] at P1; exact P1
    | raise c w e2 s2 => simp only [e] at P1; exact P1.elim
    | bad => simp only [e] at P1; exact P1.elim
  refine ⟨fun i m H => m = ps.length - i ∧ i ≤ ps.length ∧ ∃ G e s acc vs, G.H = H ∧ Mon G1 G ∧ At z.K z.G0 G s e (wipe σ own) ∧ Alone z G e (wipe σ own) D vs ∧ RepL z.K G acc vs ∧ PP z σ Q env1 own G (compL own g t d (ps.drop i) acc e s), ⟨ps.length, by simp, Nat.zero_le _, G1.fresh D (.lst []), _, _, [], [], rfl, (Ext.fresh hD).mon A1.sure, A0.fresh hD, A0.alone (vs := []) hD, .nil, ?_⟩, ?_⟩
  · exact (lwPP (z := z) (z' := z)).later _ _ _ (by simpa using start) ((Ext.fresh hD).mon A1.sure)
  · rintro i m H ⟨rfl, hi, G, e, s, acc, vs, rfl, M, A, al, ra, PQ⟩
    by_cases hl : i < ps.length
    · have ed : ps.drop i = ps[i] :: ps.drop (i + 1) := List.drop_eq_getElem_cons hl
      rw [ed] at PQ
      obtain ⟨q1, q2⟩ := en.go i ps[i] G M A.sure (by simp [hl])
      refine .inr ⟨q1, fun H' => ∃ G e s acc vs, G.H = H' ∧ Mon G1 G ∧ At z.K z.G0 G s e (wipe σ own) ∧ Alone z G e (wipe σ own) D vs ∧ RepL z.K G acc vs ∧ PP z σ Q env1 own G (compL own g t d (ps.drop (i + 1)) acc e s), fun H' h => ⟨ps.length - (i + 1), by omega, rfl, hl, h⟩, fun x H' y => ?_⟩
      obtain ⟨G2, rfl, x2, s2, r2⟩ := q2 x H' y
      have m2 := x2.mon A.sure
      have A2 := A.ext x2 s2
      have al2 : Alone z G2 e (wipe σ own) D vs := ⟨x2.keep _ _ al.at_, fun h => (x2.fzn D h).elim al.nf (fun h => by rw [al.at_] at h; cases h), by rw [x2.m]; exact al.nm, al.n0, al.no⟩
      have hnD : ¬ ∃ i, IsOwn e i ∧ (wipe σ own)[i]? = some (some (.ref D)) := fun ⟨i, ho, q⟩ => al2.no i ho q
      have hD0 : (G2.less e (wipe σ own)).H D = some (.lst vs) := (less_same hnD).trans al2.at_
      -- D stands while the block runs
      have keepD : ∀ {G3 : Wd} {S3 : Stt} {e3 : Env} {σ3 : St}, At z.K (G2.less e (wipe σ own)) G3 S3 e3 σ3 → Alone z G3 e3 σ3 D vs := fun {G3 S3 e3 σ3} B =>
        ⟨B.ent.keep D _ hD0 nt_lst al2.nm, fun h => (B.ent.fzn D h).elim al2.nf (fun h => h.no hD0 nt_lst), fun h => (B.ent.new D h).elim al2.nm (fun h => h.no hD0 nt_lst), al2.n0,
          fun i ho q => (B.mine i D ho q).no hD0 nt_lst⟩
      have Mx := M.trans m2
      refine toGc (lwPP (z := z)) A2.aside r2 ((lwPP (z := z) (z' := z)).later _ _ _ PQ m2) fun env3 S3 σ3 G3 m3 B3 w3 P3 => ⟨w3.trans (wipe_id own), G2.less e (wipe σ own), ?_⟩
      refine toT (lwPP (z := z)) B3 P3 fun b env4 S4 G4 m4 B4 P4 => ?_
      -- the frame behind a turn
      have fin : ∀ {G5 : Wd} {S5 : Stt} {e5 : Env}, At z.K (G2.less e (wipe σ own)) G5 S5 e5 σ3 → At z.K z.G0 G5 S5 (wipeE e5 own) (wipe σ own) ∧ Alone z G5 (wipeE e5 own) (wipe σ own) D vs := fun {G5 S5 e5} B => by
        have hw : wipe σ3 own = wipe σ own := w3.trans (wipe_id own)
        have B' := wipe_at (z := zc z (G2.less e (wipe σ own))) B own
        rw [hw] at B'
        exact ⟨A2.back B', keepD B'⟩
      cases b with
      | false =>
        rw [if_neg Bool.false_ne_true] at P4 ⊢
        obtain ⟨F1, F2⟩ := fin B4
        exact ⟨G4, _, S4, acc, vs, rfl, (Mx.trans m3).trans m4, F1, F2, ra.mon ((m2.trans m3).trans m4), P4⟩
      | true =>
        rw [if_pos rfl] at P4 ⊢
        refine ⟨G2.less e (wipe σ own), toE (lwPP (z := z)) B4 P4 fun w env5 S5 v G5 m5 B5 r5 P5 => ?_⟩
        obtain ⟨F1, F2⟩ := fin B5
        have Ma := (m2.trans m3).trans (m4.trans m5)
        by_cases hz : acc.length < sizeLine
        · rw [if_pos hz] at P5
          refine ⟨vs, F2.at_, by rw [← ra.length]; exact hz, ?_⟩
          obtain ⟨N1, N2, N3⟩ := F1.pokeAlone (vs' := vs ++ [v]) F2
          exact ⟨_, _, S5, acc ++ [w], vs ++ [v], rfl, ((Mx.trans m3).trans (m4.trans m5)).trans N1, N2, N3, ((ra.mon Ma).snoc r5).mon N1, (lwPP (z := z) (z' := z)).later _ _ _ P5 N1⟩
        · rw [if_neg hz] at P5
          exact P5.elim
    · have ed : ps.drop i = [] := List.drop_eq_nil_of_le (by omega)
      rw [ed] at PQ
      refine .inl ⟨en.stop i G M (by omega), ?_⟩
      have F := rest_at A1 M A
      exact PQ D vs G (Mon.refl _) F ra al.at_ al.nf al.nm al.n0 fun j ho q => by
        obtain ⟨xs, ho⟩ := ho
        obtain ⟨h1, h2⟩ := rest_own (σ := σ) (a := 0) ho
        exact al.no j ⟨xs, h2⟩ (by rw [wipe_get, if_neg h1]; exact q)
variable {elt tg iter : Expr} {ifs : List Expr} {scope : Scope} {items : Cd (List PV)} {g : PV → Cd Unit} {t : Cd Bool} {d : Cd PV}
theorem peb {e : Expr} {d : Cd PV} (h : MEb X z e d) : PE X e (REb z d) := ⟨fun pins s σ H Q I ⟨G0, q⟩ => (h G0).run pins s σ H Q I q⟩
theorem mf_comp (own : List (Str × Nat)) (hN : X.N.Nodup) (hi : MI X z tg iter items) {N : List Str} {sc : Scope} (ok : blkC N sc scope own = true)
    (hg : ∀ (s : Shared) (H : Hp) (C : Addr) (cl : List (Str × Addr)) (fp : List Addr), MGc (X.blk s H scope (compEnvC scope cl C X.env) fp) z (own.map (·.2)) tg g)
    (ht : ∀ (s : Shared) (H : Hp) (C : Addr) (cl : List (Str × Addr)) (fp : List Addr), MTsb (X.blk s H scope (compEnvC scope cl C X.env) fp) z ifs t)
    (he : ∀ (s : Shared) (H : Hp) (C : Addr) (cl : List (Str × Addr)) (fp : List Addr), MEb (X.blk s H scope (compEnvC scope cl C X.env) fp) z elt d) (hc : X.calm = true := by rfl) (hs : ∀ x, foldedSetIterable iter X.env x = pure x := by intro _; rfl) (hXN : X.N = N := by rfl) (hsc : X.env.scope = sc := by rfl) :
    MF X z (.ListComp elt [⟨tg, iter, ifs, 0⟩] scope pos) (dComp items (own.map (·.2)) g t d) :=
  (pe_lc hc hN hi (blkOk_by (by rw [hXN, hsc]; exact ok)) hg ht (fun s H C cl fp => peb (he s H C cl fp)) hs).imp fun σ H Q h => comp_rd h
/-- y = [..], y a local name of the same row: a value -/
theorem ms_comp (i : Nat) {y : Str} {py spos : Pos} (own : List (Str × Nat)) (hN : X.N.Nodup) (hi : MI X z tg iter items) {N : List Str} {sc : Scope} (ok : blkC N sc scope own = true)
    (hg : ∀ (s : Shared) (H : Hp) (C : Addr) (cl : List (Str × Addr)) (fp : List Addr), MGc (X.blk s H scope (compEnvC scope cl C X.env) fp) z (own.map (·.2)) tg g)
    (ht : ∀ (s : Shared) (H : Hp) (C : Addr) (cl : List (Str × Addr)) (fp : List Addr), MTsb (X.blk s H scope (compEnvC scope cl C X.env) fp) z ifs t)
    (he : ∀ (s : Shared) (H : Hp) (C : Addr) (cl : List (Str × Addr)) (fp : List Addr), MEb (X.blk s H scope (compEnvC scope cl C X.env) fp) z elt d) (hy : X.N[i]? = some y := by rfl) (hyl : X.env.scope.names.lookup y = some .local := by rfl)
    (hsw : swapsWith (.ListComp elt [⟨tg, iter, ifs, 0⟩] scope pos) (some (.Name y py)) spos.line X.env = pure true := by exact sw_true rfl rfl rfl (by decide +kernel))
    (hc : X.calm = true := by rfl) (hs : ∀ x, foldedSetIterable iter X.env x = pure x := by intro _; rfl) (hXN : X.N = N := by rfl) (hsc : X.env.scope = sc := by rfl) :
    MS X z (.Assign [.Name y py] (.ListComp elt [⟨tg, iter, ifs, 0⟩] scope pos) spos) (dSet i (dFrz (dComp items (own.map (·.2)) g t d))) :=
  PS.imp (ps_setLc hc hN hy hyl hsw hi (blkOk_by (by rw [hXN, hsc]; exact ok)) hg ht (fun s H C cl fp => peb (he s H C cl fp)) hs) fun D σ H ⟨G, env, S, e, A, P⟩ => by
    subst e
    unfold dSet dFrz at P
    rw [bnd_assoc] at P
    exact comp_rd (toF lwS A P fun xs env1 S1 a vs G1 m1 A1 r1 al P1 => P1 _ (G1.freeze a) mon_freeze ((A1.freeze al).setVal (.lst (.inr rfl) al.at_ (r1.mon mon_freeze))))
/-- .. a list that the name alone holds -/
theorem ms_compO (i : Nat) {y : Str} {py spos : Pos} (own : List (Str × Nat)) (hN : X.N.Nodup) (hi : MI X z tg iter items) {N : List Str} {sc : Scope} (ok : blkC N sc scope own = true)
    (hg : ∀ (s : Shared) (H : Hp) (C : Addr) (cl : List (Str × Addr)) (fp : List Addr), MGc (X.blk s H scope (compEnvC scope cl C X.env) fp) z (own.map (·.2)) tg g)
    (ht : ∀ (s : Shared) (H : Hp) (C : Addr) (cl : List (Str × Addr)) (fp : List Addr), MTsb (X.blk s H scope (compEnvC scope cl C X.env) fp) z ifs t)
    (he : ∀ (s : Shared) (H : Hp) (C : Addr) (cl : List (Str × Addr)) (fp : List Addr), MEb (X.blk s H scope (compEnvC scope cl C X.env) fp) z elt d) (hy : X.N[i]? = some y := by rfl) (hyl : X.env.scope.names.lookup y = some .local := by rfl)
    (hsw : swapsWith (.ListComp elt [⟨tg, iter, ifs, 0⟩] scope pos) (some (.Name y py)) spos.line X.env = pure true := by exact sw_true rfl rfl rfl (by decide +kernel))
    (hc : X.calm = true := by rfl) (hs : ∀ x, foldedSetIterable iter X.env x = pure x := by intro _; rfl) (hXN : X.N = N := by rfl) (hsc : X.env.scope = sc := by rfl) :
    MS X z (.Assign [.Name y py] (.ListComp elt [⟨tg, iter, ifs, 0⟩] scope pos) spos) (dOwn i (dComp items (own.map (·.2)) g t d)) :=
  PS.imp (ps_setLc hc hN hy hyl hsw hi (blkOk_by (by rw [hXN, hsc]; exact ok)) hg ht (fun s H C cl fp => peb (he s H C cl fp)) hs) fun D σ H ⟨G, env, S, e, A, P⟩ => by
    subst e
    exact comp_rd (toF lwS A P fun xs env1 S1 a vs G1 m1 A1 r1 al P1 => P1 _ G1 (Mon.refl _) (A1.setOwn r1 al))
end
end FS
set_option Elab.async false
set_option linter.all false
set_option maxRecDepth 100000
/-! FsEnum: enumerate of lists and of tuples. -/
namespace FS
open PySem PySem.Spec L2
section
variable {X : Cx} {z : Zx} {pos p : Pos} {da : Cd (List PV)}
/-- enumerate of a list, of a tuple -/
def enumP (ps : List PV) : Option (List PV) := match ps with
  | [p] => (itemsF p).map enumL
  | _ => none
def dEnum (d : Cd (List PV)) : Cd (List PV) := bnd d fun ps => lift (enumP ps)
end
end FS
set_option Elab.async false
set_option linter.all false
set_option maxRecDepth 100000
/-! FsOwn: lists that a name alone holds are read; more new lists; more assignments. -/
namespace HT
open PySem PySem.Spec PyProof.Rows
section
variable {prog : Program} {w : World} {A : Around} {E : Value → Shared → Prop} {s : Shared}
theorem sliceApplied_rev {sl : Addr} {n : Nat} {t : Tok} {Q : Int × Int × Nat → Shared → Prop} (hs : s.heap.IsSliceOf sl .none .none (.int (-1) t))
    (h : Q ((n : Int) - 1, -1, n) s) : wpAny (model prog w) A (Builtin.Slice.sliceApplied (.ref sl) (pure (n : Int))) Q E s := by
  obtain ⟨os, hos, hcs, hds⟩ := id hs
  unfold Builtin.Slice.sliceApplied Builtin.Slice.sliceFields
  refine wpAny_bind (wpAny_bind (wpAny_field hos hds (x := .none) rfl (wpAny_bind (wpAny_field hos hds (x := .none) rfl (wpAny_bind (wpAny_field hos hds (x := .int (-1) t) rfl (wpAny_pure ?_)))))))
  refine wpAny_bind (slicePart_int ?_)
  show wpAny _ _ (if ((-1 : Int) == 0) = true then _ else _) _ _ s
  rw [if_neg (by decide)]
  refine wpAny_bind (slicePart_none (wpAny_bind (slicePart_none (wpAny_bind (wpAny_pure ?_)))))
  show wpAny _ _ (match Builtin.Slice.sliceAdjust none none (-1) (n : Int) with | (lo, hi) => pure (lo, (-1 : Int), Builtin.Slice.slicePlaces lo hi (-1))) _ _ s
  have e1 : Builtin.Slice.sliceAdjust none none (-1) (n : Int) = ((n : Int) - 1, -1) := by
    unfold Builtin.Slice.sliceAdjust
    simp
  rw [e1]
  have e2 : Builtin.Slice.slicePlaces ((n : Int) - 1) (-1) (-1) = n := by
    unfold Builtin.Slice.slicePlaces
    simp
    omega
  show wpAny _ _ (pure ((n : Int) - 1, (-1 : Int), Builtin.Slice.slicePlaces ((n : Int) - 1) (-1) (-1))) _ _ s
  rw [e2]
  exact wpAny_pure h
theorem fm_all {β : Type} (f : Nat → Option β) (g : Nat → β) : ∀ l : List Nat, (∀ m ∈ l, f m = some (g m)) → l.filterMap f = l.map g
  | [], _ => rfl
  | m :: l, h => by
    rw [List.filterMap_cons_some (h m (List.mem_cons_self ..)), List.map_cons, fm_all f g l fun k hk => h k (List.mem_cons_of_mem _ hk)]
theorem pick_rev (xs : Array Value) : ((List.range xs.size).filterMap fun (m : Nat) => xs[((xs.size : Int) - 1 + (m : Int) * (-1)).toNat]?).toArray = xs.toList.reverse.toArray := by
  congr 1
  apply List.ext_getElem?
  intro i
  have e : (List.range xs.size).filterMap (fun (m : Nat) => xs[((xs.size : Int) - 1 + (m : Int) * (-1)).toNat]?) = (List.range xs.size).map (fun m => (xs[xs.size - 1 - m]?).getD default) := by
    refine fm_all _ _ _ fun m hm => ?_
    have hm : m < xs.size := by simpa using hm
    have e1 : ((xs.size : Int) - 1 + (m : Int) * (-1)).toNat = xs.size - 1 - m := by omega
    have h2 : xs.size - 1 - m < xs.size := by omega
    rw [e1]
    simp [h2]
  rw [e, List.getElem?_map]
  by_cases hi : i < xs.size
  · rw [List.getElem?_range hi, List.getElem?_reverse (by simpa using hi)]
    have h2 : xs.size - 1 - i < xs.size := by omega
    simp [h2]
  · rw [List.getElem?_eq_none (by simpa using hi), List.getElem?_eq_none (by simpa using hi)]
    rfl
theorem getItem_tuple_rev {t sl : Addr} {items : Array Value} {u : Tok} {Q : Value → Shared → Prop} (ht : IsTup s.heap t items) (hs : s.heap.IsSliceOf sl .none .none (.int (-1) u))
    (h : Q (.ref s.heap.objs.size) { s with heap := s.heap.push { cls := .type "tuple", data := .seq items.toList.reverse.toArray } })
    (hsz : items.size ≤ sizeLine) : wpAny (model prog w) A (getItem (.ref t) (.ref sl)) Q E s := by
  have htake : sizeOk (.seq items.toList.reverse.toArray) := by
    show items.toList.reverse.toArray.size ≤ sizeLine
    simpa using hsz
  obtain ⟨os, hos, hcs, hds⟩ := id hs
  have hTs : s.TypeIs (.ref sl) "slice" := ⟨os, hos, hcs⟩
  unfold getItem
  try with_reducible refine wpAny_holding ?_
  first | refine wpAny_bind (wpAny_pure ?_) | skip
  refine wpAny_bind (wpAny_sequenceKey ht.typeIs (by decide) ?_)
  refine wpAny_bind (wpAny_callSpecial?_slot (name := Str.ofString "__getitem__") ht.typeIs PyProof.Rows.slot_tuple_getitem
    (wpAny_call_entry PyProof.Rows.slot_tuple_getitem ht.typeIs entry_tuple_getitem ?_ (args_tuple_getitem _ _)))
  show wpAny _ _ (Builtin.Tuple.tupleItemsOf (.ref t) >>= _) _ _ s
  refine wpAny_bind (tupleItemsOf_ ht ?_)
  refine wpAny_bind (wpAny_typeOf hTs ?_)
  rw [if_pos (by decide)]
  refine wpAny_bind (sliceApplied_rev hs ?_)
  have hno : ¬ ((((items.size : Int) - 1) == 0 && (-1 : Int) == 1 && items.size == items.size) = true) := by
    rw [show ((-1 : Int) == 1) = false from rfl, Bool.and_false, Bool.false_and]
    exact Bool.false_ne_true
  show wpAny _ _ (if (((items.size : Int) - 1) == 0 && (-1 : Int) == 1 && items.size == items.size) = true then _ else _) _ _ s
  rw [if_neg hno, pick_rev]
  first
    | exact wpAny_bind (m := Builtin.Tuple.tupleExact _) (wpAny_newObj_type (wpAny_pure ⟨_, rfl, wpAny_pure h⟩) htake)
    | exact wpAny_bind (m := Builtin.Tuple.tupleExact _) (wpAny_newObj_type (wpAny_bind (wpAny_pure (wpAny_pure ⟨_, rfl, wpAny_pure h⟩))) htake)
    | exact wpAny_bind (wpAny_bind (m := Builtin.Tuple.tupleExact _) (wpAny_newObj_type (wpAny_pure (wpAny_pure ⟨_, rfl, wpAny_pure h⟩)) htake))
    | exact wpAny_bind (wpAny_bind (m := Builtin.Tuple.tupleExact _) (wpAny_newObj_type (wpAny_pure ⟨_, rfl, wpAny_pure h⟩) htake))
end
end HT
namespace L2
open PySem PySem.Spec PyProof.Rows
/-- xs[::-1] of a tuple -/
def tRevT (K : PySem.W.Frag) (te : TE) : TE := fun σ H Q => te σ H fun x H1 => ∃ a xs, x = .ref a ∧ SqT K H1 a xs ∧ ∀ p o, H1 p = none → o.dict = none → Q (.ref p) (upd H1 p (.frz o (.tup xs.reverse)))
theorem pe_revT {X : Cx} {e : Expr} {te : TE} {k : Nat} {p1 p2 p3 pos : Pos} (he : PE X e te) : PE X (.Subscript e (.Slice none none (some (.UnaryOp .USub (.Constant (.int 1) k p1) p2)) p3) pos) (tRevT X.K te) := by
  refine ⟨fun pins s σ H Q I h => ?_⟩
  refine Subscript_ (thn (he.run pins s σ H _ I h) fun v s1 ⟨x, H1, I1, r1, q1⟩ => ?_)
  obtain ⟨a, xs, ex, hx, q⟩ := q1
  subst ex
  cases r1
  have hst : PO X (some (.UnaryOp .USub (.Constant (.int 1) k p1) p2)) (tPart (tUn (rU fun i => .int (-i)) (tC (.int 1)))) := po_some (pe_un un_neg pe_int)
  refine wpAny_Slice (thn (po_none.run pins s1 σ H1 (fun o H2 => o = none ∧ H2 = H1) I1 ⟨rfl, rfl⟩) fun vl s2 ⟨l, H2, I2, pl, el, e2⟩ => ?_)
  subst el e2
  refine thn (po_none.run pins s2 σ H2 (fun o H3 => o = none ∧ H3 = H2) I2 ⟨rfl, rfl⟩) fun vu s3 ⟨u, H3, I3, pu, eu, e3⟩ => ?_
  subst eu e3
  refine thn (hst.run pins s3 σ H3 (fun o H4 => o = some (-1) ∧ H4 = H3) I3 ⟨1, rfl, -1, rfl, rfl, rfl⟩) fun vs s4 ⟨o, H4, I4, ps, eo, e4⟩ => ?_
  subst eo e4
  have I5 : Inv X pins σ H4 { s4 with heap := s4.heap.push { cls := .type "slice", data := .fields #[vl, vu, vs] } } := I4.kept (t' := s4.toks) fun b ob q => Heap.get?_push_of_some _ q
  obtain ⟨its, r, ht, hz⟩ := I5.tuple hx
  have hlen := r.length
  cases pl
  cases pu
  obtain ⟨tk, rfl⟩ : ∃ t, vs = .int (-1) t := by cases ps; exact ⟨_, rfl⟩
  show wpAny (model X.prog X.w) X.A (subscriptTail e (.Slice none none (some (.UnaryOp .USub (.Constant (.int 1) k p1) p2)) p3) (.ref a) (.ref s4.heap.objs.size)) (EP X pins σ Q) X.xe { s4 with heap := s4.heap.push { cls := .type "slice", data := .fields #[.none, .none, .int (-1) tk] } }
  refine tail_any (ops := [.ref a, .ref s4.heap.objs.size]) ht.typeIs PyProof.Rows.slot_tuple_getitem.lookup ?_ (by with_unfolding_all rfl)
  refine HT.getItem_tuple_rev ht (Heap.IsSliceOf.new _ _ _ _) ?_ (by rw [List.size_toArray]; omega)
  exact ⟨.ref _, _, I5.laid (t' := s4.toks) (o := .frz _ (.tup xs.reverse)) (fun b ob q => Heap.get?_push_of_some _ q) (Nat.le_refl _) (objN (by rw [List.length_reverse]; exact hz) r.reverse (Heap.get?_push_size _ rfl) rfl ⟨_, rfl⟩), rfl, q _ _ (I5.hok.fresh (Nat.le_refl _)) rfl⟩
section
variable {X : Cx}
def rInDT (K : PySem.W.Frag) (neg : Bool) : R2 := fun x y H Q => ∃ d ds, Dp K H x d ∧ Dp K H y (.tuple ds) ∧ SeqAt.shaped d = true ∧ SeqAt.shaped (.tuple ds) = true ∧ Q (.bl (if neg then !ds.any (fun z => PyData.eqv z d) else ds.any fun z => PyData.eqv z d)) H
theorem op_inDT (hu : X.A.units + 65 < cLine) : OpR X (compareOp .In) (rInDT X.K false) := by
  intro pins s σ H x y v u Q I rx ry h
  obtain ⟨d, ds, hd, he, sd, se, q⟩ := h
  obtain ⟨as, r1⟩ := Dp.reads I d x v hd rx
  obtain ⟨bs, r2⟩ := Dp.reads I (.tuple ds) y u he ry
  exact SeqAt.in_tuple_reads r2 r1 (SeqAt.canLay_of_shaped se) (SeqAt.canLay_of_shaped sd) (room_in_shaped sd hu) ⟨.bl _, H, I, rfl, q⟩
theorem op_notInDT (hu : X.A.units + 65 < cLine) : OpR X (compareOp .NotIn) (rInDT X.K true) := by
  intro pins s σ H x y v u Q I rx ry h
  obtain ⟨d, ds, hd, he, sd, se, q⟩ := h
  obtain ⟨as, r1⟩ := Dp.reads I d x v hd rx
  obtain ⟨bs, r2⟩ := Dp.reads I (.tuple ds) y u he ry
  exact SeqAt.notIn_tuple_reads r2 r1 (SeqAt.canLay_of_shaped se) (SeqAt.canLay_of_shaped sd) (room_in_shaped sd hu) ⟨.bl _, H, I, rfl, q⟩
end
end L2
namespace FS
open PySem PySem.Spec L2
section
variable {X : Cx} {z : Zx} {pos p p1 p2 p3 : Pos} {a b e : Expr} {da db : Cd PV}
theorem pe_either {t t' : TE} (h : PE X e t) (h' : PE X e t') : PE X e (fun σ H Q => t σ H Q ∨ t' σ H Q) :=
  ⟨fun pins s σ H Q I q => q.elim (h.run pins s σ H Q I) (h'.run pins s σ H Q I)⟩
/-! ### a list that a name alone holds is read -/
/-- len(x) -/
def dLenO (i : Nat) : Cd PV := fun e s => match e[i]? with
  | some (.own xs) => .ok (.int xs.length) e s
  | _ => dFn fLen (dCons (dUse i) dNil) e s
theorem me_lenO (i : Nat) {x : Str} (hm : X.mg "len" = none) (hK : z.K = X.K := by rfl) (hN : X.N[i]? = some x := by rfl) (hv : Vis X.env.scope x := by first | exact Or.inl rfl | exact Or.inr (Or.inl rfl) | exact Or.inr (Or.inr rfl)) (hd : (x == ("__debug__" : Str)) = false := by decide)
    (hcd : (x == ("__classdict__" : Str)) = false := by decide) (hg : Gl X "len" := by rfl)
    (he : starEach [.Name x p1] X.env = (false, eval (.Name x p1) X.env) :: starEach [] X.env := by rfl) (hpl : (backTo pos (starEach [] X.env)).any (·.1) = false := by rfl) :
    ME X z (.Call (.Name "len" p) [.Name x p1] [] pos) (dLenO i) := by
  have h1 : PE X (.Call (.Name "len" p) [.Name x p1] [] pos) _ := pe_callB call_len_seq hg hm (by decide +kernel) (pa_cons (pe_var hN hv hd hcd) pa_nil he) (by decide) (by decide) he hpl
  have h2 : ME X z (.Call (.Name "len" p) [.Name x p1] [] pos) (dFn fLen (dCons (dUse i) dNil)) := me_blt (c_len hK) hm (ma_cons (me_use i hN hv hd hcd) ma_nil he) (by decide +kernel) hg (by decide) (by decide) he hpl
  refine (pe_either h1 h2).imp fun σ H Q ⟨G, env, S, e, A, P⟩ => ?_
  subst e
  unfold dLenO at P
  cases q : env[i]? with
  | none => rw [q] at P; exact .inr ⟨G, env, S, rfl, A, P⟩
  | some s =>
    rw [q] at P
    cases s with
    | none => exact .inr ⟨G, env, S, rfl, A, P⟩
    | exc a d w => exact .inr ⟨G, env, S, rfl, A, P⟩
    | val p => exact .inr ⟨G, env, S, rfl, A, P⟩
    | own xs =>
      obtain ⟨a, vs, e1, e2, r, _⟩ := A.en.own i xs q
      exact .inl ⟨_, e1, a, vs, rfl, .inl (SqL.of e2), by rw [← r.length]; exact P _ G (Mon.refl _) A (.int _)⟩
/-- x[k] -/
def dIxO (i : Nat) (db : Cd PV) : Cd PV := fun e s => match e[i]? with
  | some (.own _) => bnd db (fun k => fun e s => match e[i]?, k with
    | some (.own xs), .int j => match atI xs j with
      | some w => .ok w e s
      | none => .bad
    | _, _ => .bad) e s
  | _ => dOp pIx (dUse i) db e s
theorem me_ixO (i : Nat) {x : Str} (hb : ME X z b db) (hK : z.K = X.K := by rfl) (hN : X.N[i]? = some x := by rfl) (hv : Vis X.env.scope x := by first | exact Or.inl rfl | exact Or.inr (Or.inl rfl) | exact Or.inr (Or.inr rfl)) (hd : (x == ("__debug__" : Str)) = false := by decide)
    (hcd : (x == ("__classdict__" : Str)) = false := by decide) (hs : PlainIx b := by exact fun _ _ => rfl) : ME X z (.Subscript (.Name x p) b pos) (dIxO i db) := by
  have h1 : PE X (.Subscript (.Name x p) b pos) _ := pe_ix ix_seq (pe_var (pos := p) hN hv hd hcd) hb hs
  have h2 : ME X z (.Subscript (.Name x p) b pos) (dOp pIx (dUse i) db) := me_ix (me_use i hN hv hd hcd) hb hK hs
  refine (pe_either h1 h2).imp fun σ H Q ⟨G, env, S, e, A, P⟩ => ?_
  subst e
  unfold dIxO at P
  cases q : env[i]? with
  | none => rw [q] at P; exact .inr ⟨G, env, S, rfl, A, P⟩
  | some s =>
    rw [q] at P
    cases s with
    | none => exact .inr ⟨G, env, S, rfl, A, P⟩
    | exc a d w => exact .inr ⟨G, env, S, rfl, A, P⟩
    | val p => exact .inr ⟨G, env, S, rfl, A, P⟩
    | own xs =>
      obtain ⟨a, vs, e1, e2, r, _⟩ := A.en.own i xs q
      refine .inl ⟨_, e1, ?_⟩
      refine toE lwE A P fun k env1 S1 v G1 m1 A1 r1 P1 => ?_
      cases q1 : env1[i]? with
      | none => simp only [q1] at P1; exact P1.elim
      | some sl =>
        cases sl with
        | none => simp only [q1] at P1; exact P1.elim
        | val p => simp only [q1] at P1; exact P1.elim
        | exc a d w => simp only [q1] at P1; exact P1.elim
        | own ys =>
          cases k with
          | int j =>
            simp only [q1] at P1
            cases e : atI ys j with
            | none => simp only [e] at P1; exact P1.elim
            | some w =>
              simp only [e] at P1
              cases r1
              obtain ⟨b, us, f1, f2, f3, _⟩ := A1.en.own i ys q1
              rw [e1] at f1
              cases f1
              obtain ⟨u, g1, g2⟩ := atI_rep f3 e
              exact .inl ⟨a, us, j, u, rfl, rfl, SqL.of f2, g1, P1 u G1 (Mon.refl _) A1 g2⟩
          | _ => simp only [q1] at P1; exact P1.elim
/-! ### in, of tuples too -/
def pInT : Stt → PV → PV → Option PV := fun _ p q => match q with
  | .tup xs => if (okd 60 p && okd 60 (.tup xs)) = true then some (.bl (xs.any fun y => eqv y p)) else none
  | _ => none
def pNotInT : Stt → PV → PV → Option PV := fun _ p q => match q with
  | .tup xs => if (okd 60 p && okd 60 (.tup xs)) = true then some (.bl (!xs.any fun y => eqv y p)) else none
  | _ => none
theorem op_pInT {j : Nat} (hr : Room j X.A) (hK : z.K = X.K := by rfl) : OpD X z (compareOp .In) pInT := by
  refine ⟨_, op_inDT (by have := hr.un; omega), fun G S p q w x y Q e s su rp rq h => ?_⟩
  cases q with
  | tup xs =>
    simp only [pInT] at e
    split at e
    · rename_i hc
      rw [Bool.and_eq_true] at hc
      cases e
      rw [hK] at s rp rq
      exact ⟨_, _, rep_dp 60 _ _ hc.1 rp, rep_dp 60 _ _ hc.2 rq, okd_shaped hc.1, okd_shaped hc.2, by rw [any_toDs]; exact h _ G (.refl G) su (.bl _)⟩
    · cases e
  | _ => cases e
theorem op_pNotInT {j : Nat} (hr : Room j X.A) (hK : z.K = X.K := by rfl) : OpD X z (compareOp .NotIn) pNotInT := by
  refine ⟨_, op_notInDT (by have := hr.un; omega), fun G S p q w x y Q e s su rp rq h => ?_⟩
  cases q with
  | tup xs =>
    simp only [pNotInT] at e
    split at e
    · rename_i hc
      rw [Bool.and_eq_true] at hc
      cases e
      rw [hK] at s rp rq
      exact ⟨_, _, rep_dp 60 _ _ hc.1 rp, rep_dp 60 _ _ hc.2 rq, okd_shaped hc.1, okd_shaped hc.2, by rw [any_toDs]; exact h _ G (.refl G) su (.bl _)⟩
    · cases e
  | _ => cases e
def pInA (S : Stt) (p q : PV) : Option PV := (pIn S p q).or (pInT S p q)
def pNotInA (S : Stt) (p q : PV) : Option PV := (pNotIn S p q).or (pNotInT S p q)
theorem op_pInA {j : Nat} (hr : Room j X.A) (hK : z.K = X.K := by rfl) : OpD X z (compareOp .In) pInA := (op_pIn hr hK).or (op_pInT hr hK)
theorem op_pNotInA {j : Nat} (hr : Room j X.A) (hK : z.K = X.K := by rfl) : OpD X z (compareOp .NotIn) pNotInA := (op_pNotIn hr hK).or (op_pNotInT hr hK)
/-- e in x, x a list that its name alone holds -/
def inL (neg : Bool) (p : PV) (xs : List PV) : Option PV := if (okd 60 p && okd 60 (.lst xs)) = true then some (.bl (if neg then !xs.any (fun y => eqv y p) else xs.any fun y => eqv y p)) else none
def dInO (neg : Bool) (da : Cd PV) (i : Nat) : Cd PV := bnd da fun p => fun e s => match e[i]? with
  | some (.own xs) => match inL neg p xs with
    | some w => .ok w e s
    | none => .bad
  | some (.val q) => match (if neg then pNotInA s p q else pInA s p q) with
    | some w => .ok w e s
    | none => .bad
  | _ => .bad
/-! ### more new lists -/
/-- a list times a whole number -/
def dMulL (da db : Cd PV) : Cd (List PV) := bnd da fun p => bnd db fun q => match p, q with
  | .lst xs, .int k => if k < 1048576 ∧ -1048576 < k ∧ xs.length * k.toNat ≤ sizeLine then ret (List.replicate k.toNat xs).flatten else fun _ _ => .bad
  | _, _ => fun _ _ => .bad
theorem mf_mulL (ha : ME X z a da) (hb : ME X z b db) : MF X z (.BinOp a .Mult b pos) (dMulL da db) := by
  refine (pe_op op_rep ha hb).imp fun σ H Q ⟨G, env, S, e, A, P⟩ => ?_
  subst e
  refine toE lwF A P fun p env1 S1 x G1 m1 A1 r1 P1 => toE lwF A1 P1 fun q env2 S2 y G2 m2 A2 r2 P2 => ?_
  cases p with
  | lst xs =>
    cases q with
    | int k =>
      simp only at P2
      split at P2
      · rename_i hc
        cases r2
        obtain ⟨a, vs, rfl, q, rr⟩ := (r1.mon m2).sqL
        have e2 : (2 : Int) ^ 63 = 9223372036854775808 := by decide
        refine ⟨a, k, vs, rfl, rfl, q, by rw [e2]; omega, by rw [e2]; omega, by rw [← rr.length]; exact hc.2.2, fun p hn => ?_⟩
        have M : Mon G2 (G2.fresh p (.lst (List.replicate k.toNat vs).flatten)) := (Ext.fresh hn).mon A2.sure
        have q := A2.alone (vs := (List.replicate k.toNat vs).flatten) hn
        exact P2 p _ _ M (A2.fresh hn) ((rr.rep k.toNat).mon M) q.at_ q.nf q.nm q.n0 q.no
      · exact P2.elim
    | _ => exact P2.elim
  | _ => exact P2.elim
/-- a list and a list -/
def dCatL (da db : Cd PV) : Cd (List PV) := bnd da fun p => bnd db fun q => match p, q with
  | .lst xs, .lst ys => if xs.length + ys.length ≤ sizeLine then ret (xs ++ ys) else fun _ _ => .bad
  | _, _ => fun _ _ => .bad
/-- a list's part -/
def dCutL (d : Cd PV) (lo hi : Cd (Option Int)) : Cd (List PV) := bnd d fun p => bnd lo fun l => bnd hi fun h => match p with
  | .lst xs => ret (cutP xs l h)
  | _ => fun _ _ => .bad
/-- list(range(n)) -/
def dRngL (d : Cd (List PV)) : Cd (List PV) := bnd d fun ps => match ps with
  | [.int j] => if okR j = true ∧ j ≤ 16777216 then ret ((List.range j.toNat).map fun (i : Nat) => PV.int i) else fun _ _ => .bad
  | [.int i, .int j] => if okR i = true ∧ okR j = true ∧ j - i ≤ 16777216 then ret ((List.range (j - i).toNat).map fun (k : Nat) => PV.int (i + k)) else fun _ _ => .bad
  | _ => fun _ _ => .bad
theorem rgV_rep {K : PySem.W.Frag} {G : Wd} (i j : Int) : RepL K G ((List.range (j - i).toNat).map fun (k : Nat) => PV.int (i + k)) (rgV i j) := by
  unfold rgV
  have : ∀ l : List Nat, RepL K G (l.map fun (k : Nat) => PV.int (i + k)) (l.map fun (k : Nat) => V.int (i + k)) := fun l => by
    induction l with
    | nil => exact .nil
    | cons k l ih => exact .cons (.int _) ih
  exact this _
theorem mf_listRg1 {d : Cd PV} (ha : ME X z a d) (hl : X.mg "list" = none) (hrg : X.mg "range" = none) (hc : X.calm = true := by rfl) (hg : Gl X "list" := by rfl) (hg2 : Gl X "range" := by rfl) (na : starEach [a] X.env = (false, eval a X.env) :: starEach [] X.env := by rfl)
    (na2 : starEach [.Call (.Name "range" p1) [a] [] p2] X.env = (false, eval (.Call (.Name "range" p1) [a] [] p2) X.env) :: starEach [] X.env := by rfl) : MF X z (.Call (.Name "list" p) [.Call (.Name "range" p1) [a] [] p2] [] pos) (dRngL (dCons d dNil)) := by
  refine PE.imp (pe_listRg hc hg hl (prg_1 hg2 hrg ha na) na2) fun σ H Q ⟨G, env, S, e, A, P⟩ => ?_
  subst e
  have hA := A
  obtain ⟨G', hh⟩ : ∃ G', G' = G := ⟨G, rfl⟩
  unfold dRngL dCons at P
  have P' : PostF z G σ Q (bnd d (fun v => match v with
    | .int j => if okR j = true ∧ j ≤ 16777216 then ret ((List.range j.toNat).map fun (i : Nat) => PV.int i) else fun _ _ => .bad
    | _ => fun _ _ => .bad) env S) := by
    unfold bnd at P ⊢
    cases q : d env S with
    | bad => rw [q] at P; exact P
    | raise c w e1 s1 => rw [q] at P; exact P
    | ok v e1 s1 =>
      rw [q] at P
      cases v <;> exact P
  refine toE lwF A P' fun v env1 S1 x G1 m1 A1 r1 P1 => ?_
  cases v with
  | int j =>
    simp only at P1
    split at P1
    · rename_i hc
      cases r1
      obtain ⟨h1, h2⟩ := okR_b hc.1
      refine ⟨j, rfl, ⟨by decide, by decide, h1, h2, by omega⟩, fun l hn => ?_⟩
      have M : Mon G1 (G1.fresh l (.lst (rgV 0 j))) := (Ext.fresh hn).mon A1.sure
      have q := A1.alone (vs := rgV 0 j) hn
      have rr := rgV_rep (K := z.K) (G := G1.fresh l (.lst (rgV 0 j))) 0 j
      have e1 : ((List.range (j - 0).toNat).map fun (k : Nat) => PV.int (0 + k)) = (List.range j.toNat).map fun (i : Nat) => PV.int i := by simp
      rw [e1] at rr
      exact P1 l _ _ M (A1.fresh hn) rr q.at_ q.nf q.nm q.n0 q.no
    · exact P1.elim
  | _ => exact P1.elim
/-! ### xs[::-1] -/
def pRev : PV → Option PV
  | .tup xs => some (.tup xs.reverse)
  | .lst xs => some (.lst xs.reverse)
  | _ => none
theorem RepL.rev {K : PySem.W.Frag} {G : Wd} {ps : List PV} {vs : List V} (r : RepL K G ps vs) : RepL K G ps.reverse vs.reverse := by
  induction ps generalizing vs with
  | nil => cases r; exact .nil
  | cons p ps ih =>
    cases r with
    | cons h t =>
      rw [List.reverse_cons, List.reverse_cons]
      exact (ih t).append (.cons h .nil)
theorem me_rev {k : Nat} (h : ME X z a da) (hK : z.K = X.K := by rfl) : ME X z (.Subscript a (.Slice none none (some (.UnaryOp .USub (.Constant (.int 1) k p1) p2)) p3) pos) (dUn pRev da) := by
  refine (pe_either (pe_revL (k := k) (p1 := p1) (p2 := p2) (p3 := p3) (pos := pos) h) (pe_revT h)).imp fun σ H Q ⟨G, env, S, e, A, P⟩ => ?_
  subst e
  have P' : Post z G σ Q (bnd da (fun v => lift (pRev v)) env S) := P
  unfold bnd at P'
  cases e : da env S with
  | bad => rw [e] at P'; exact P'.elim
  | raise c w e1 S1 =>
    rw [e] at P'
    exact .inl ⟨G, env, S, rfl, A, by rw [e]; exact P'⟩
  | ok p e1 S1 =>
    rw [e] at P'
    cases p with
    | lst xs =>
      refine .inl ⟨G, env, S, rfl, A, ?_⟩
      rw [e]
      intro v G1 m1 A1 r1
      obtain ⟨a, vs, rfl, q, rr⟩ := r1.sqL
      refine ⟨a, vs, rfl, SqL.of q, fun l hn => ?_⟩
      have M := (Ext.frozen (o := .lst vs.reverse) hn).mon A1.sure
      exact P' (.ref l) (G1.frozen l (.lst vs.reverse)) (m1.trans M) (A1.frozen hn) (.lst (.inr rfl) upd_same (rr.rev.mon M))
    | tup xs =>
      refine .inr ⟨G, env, S, rfl, A, ?_⟩
      rw [e]
      intro v G1 m1 A1 r1
      obtain ⟨a, vs, rfl, q, rr⟩ := r1.sqT
      refine ⟨a, vs, rfl, by rw [← hK]; exact q, fun l o hn ho => ?_⟩
      have M := (Ext.frozen (o := .frz o (.tup vs.reverse)) hn).mon A1.sure
      exact P' (.ref l) (G1.frozen l (.frz o (.tup vs.reverse))) (m1.trans M) (A1.frozen hn) (.tup (.inl ⟨.inr rfl, o, ho, upd_same⟩) (rr.rev.mon M))
    | _ => exact P'.elim
/-! ### more assignments -/
/-- a, b = (a new list), [] -/
def dOwnNil (i j : Nat) (d : Cd (List PV)) : Cd Flw := bnd d fun xs => fun e s => .ok .next ((e.set i (.own xs)).set j (.own [])) s
/-- a, b = e, [] -/
def dSetNil (i j : Nat) (d : Cd PV) : Cd Flw := bnd d fun p => fun e s => .ok .next ((e.set i (.val p)).set j (.own [])) s
variable {k2 : Nat} {lpos px py pt pt2 : Pos} {kt : Nat}
theorem ms_ownNil (i j : Nat) {x y : Str} {d : Cd (List PV)} (hN : X.N.Nodup) (ha : MF X z a d) (hij : i ≠ j := by decide) (hc : X.calm = true := by rfl) (hi : X.N[i]? = some x := by rfl) (hj : X.N[j]? = some y := by rfl)
    (hx : X.env.scope.names.lookup x = some .local := by rfl) (hy : X.env.scope.names.lookup y = some .local := by rfl)
    (hs0 : starEach [a, .List [] lpos] X.env = (false, eval a X.env) :: starEach [.List [] lpos] X.env := by rfl) (hs1 : starEach [.List [] lpos] X.env = (false, eval (.List [] lpos) X.env) :: starEach [] X.env := by rfl)
    (hw : swappedStores [.Tuple [.Name x px, .Name y py] kt pt] (.Tuple [a, .List [] lpos] k2 pt2) X.env = pure (some [x, y]) := by rfl)
    (hs : swapsWithSole [.Tuple [.Name x px, .Name y py] kt pt] (.Tuple [a, .List [] lpos] k2 pt2) pos.line X.env = pure false := by rfl) :
    MS X z (.Assign [.Tuple [.Name x px, .Name y py] kt pt] (.Tuple [a, .List [] lpos] k2 pt2) pos) (dOwnNil i j d) := by
  refine PS.imp (ps_par hc hN hi hj hij hx hy (pa_cons ha (pa_cons (pe_lst pa_nil) pa_nil hs1) hs0) hw hs) fun D σ H ⟨G, env, S, e, A, P⟩ => ?_
  subst e
  refine toF lwS A P fun xs env1 S1 a vs G1 m1 A1 r1 al P1 => ?_
  refine ⟨Nat.zero_le _, fun l hn => ⟨_, _, rfl, ?_⟩⟩
  have A2 := A1.setOwn (i := i) r1 al
  have M : Mon G1 (G1.fresh l (.lst [])) := (Ext.fresh hn).mon A2.sure
  have al2 := A2.alone (vs := []) hn
  exact P1 _ _ M ((A2.fresh hn).setOwn (i := j) .nil al2)
end
end FS
set_option Elab.async false
set_option linter.all false
set_option maxRecDepth 100000
/-! FsZip: zip of a tuple and a list, in any order. -/
namespace RZ
open PySem PySem.Spec PyProof.Rows L2
/-- k: a tuple, else a list -/
def kIter (k : Bool) (h : Heap) (it a : Addr) (i : Nat) : Prop := if k = true then h.IsTupleIter it a i else h.IsListIter it a i
def kSeq (k : Bool) (h : Heap) (a : Addr) (xs : Array Value) : Prop := if k = true then h.IsTuple a xs else h.IsList a xs
def SqK (K : PySem.W.Frag) (k : Bool) (H : Hp) (a : Addr) (xs : List V) : Prop := if k = true then SqT K H a xs else SqL K H a xs
theorem drawsK {prog : Program} {w : World} {A : Around} (hh : A.handled = none) (k : Bool) (it l : Addr) (hne : l ≠ it) (items : Array Value) :
    Draws prog w A it [it, l] items.size (fun i v => items[i]? = some v) (fun i h => kIter k h it l i ∧ kSeq k h l items) := by
  cases k with
  | true => exact .tuple hh it l hne items
  | false => exact .list hh it l hne items
/-- at its end -/
theorem drawsE {prog : Program} {w : World} {A : Around} (hh : A.handled = none) (k : Bool) (it l : Addr) (hne : l ≠ it) (items : Array Value) (n : Nat) (hn : items.size ≤ n) :
    Draws prog w A it [it, l] n (fun _ _ => True) (fun i h => i = n ∧ kIter k h it l i ∧ kSeq k h l items) where
  live := fun i h st => (drawsK (prog := prog) (w := w) hh k it l hne items).live i h st.2
  frame := fun i h h' st hk => ⟨st.1, (drawsK (prog := prog) (w := w) hh k it l hne items).frame i h h' st.2 hk⟩
  item := fun i s Q E hi st hQ => absurd st.1 (Nat.ne_of_lt hi)
  done := fun s Q E st hE => by
    obtain ⟨_, h1, h2⟩ := st
    have hx : items[n]? = none := by simp; omega
    cases k with
    | true => exact wpAny_nextOf_tuple_end hh h1 h2 hx hE
    | false => exact wpAny_nextOf_list_end hh h1 h2 hx hE
theorem kSeq_of {X : Cx} {pins : List (Addr × Obj)} {σ : L2.St} {H : Hp} {s : Shared} (I : Inv X pins σ H s) {k : Bool} {a : Addr} {xs : List V} (h : SqK X.K k H a xs) : ∃ its : List Value, Vals xs its ∧ kSeq k s.heap a its.toArray := by
  cases k with
  | true =>
    obtain ⟨its, rv, p, _⟩ := I.tuple h
    exact ⟨its, rv, p⟩
  | false =>
    obtain ⟨its, rv, p, _⟩ := I.list h
    exact ⟨its, rv, p.isList⟩
theorem sqK_inj {X : Cx} {pins : List (Addr × Obj)} {σ : L2.St} {H : Hp} {s : Shared} (I : Inv X pins σ H s) {k : Bool} {a : Addr} {xs ys : List V} (h : SqK X.K k H a xs) (h' : SqK X.K k H a ys) : xs = ys := by
  cases k with
  | true => exact I.tuple_inj h h'
  | false => exact I.list_inj h h'
def ItzM (K : PySem.W.Frag) (k l : Bool) (a b : Addr) : It :=
  ⟨fun i H => ∃ (xs ys : List V) (x y : V), SqK K k H a xs ∧ SqK K l H b ys ∧ xs[i]? = some x ∧ ys[i]? = some y,
    fun i H v H' => ∃ T x y, v = .ref T ∧ H T = none ∧ H' = upd H T (.tup [x, y]) ∧ (∀ xs, SqK K k H a xs → xs[i]? = some x) ∧ ∀ ys, SqK K l H b ys → ys[i]? = some y,
    fun i H => ∃ xs ys : List V, SqK K k H a xs ∧ SqK K l H b ys ∧ (xs.length ≤ i ∨ ys.length ≤ i)⟩
theorem kIter.at {k : Bool} {h h' : Heap} {it a : Addr} {i : Nat} (x : kIter k h it a i) (e : ∀ o, h.get? it = some o → h'.get? it = some o) : kIter k h' it a i := by
  cases k with
  | true => exact Heap.IsTupleIter.at x e
  | false => exact Heap.IsListIter.at x e
theorem kIter.ob {k : Bool} {h : Heap} {it a : Addr} {i : Nat} (x : kIter k h it a i) : ∃ o, h.get? it = some o ∧ ∀ v, o.data ≠ .cell v := by
  cases k with
  | true =>
    obtain ⟨o, e, _, d⟩ := x
    exact ⟨o, e, fun v q => by rw [d] at q; cases q⟩
  | false =>
    obtain ⟨o, e, _, d⟩ := x
    exact ⟨o, e, fun v q => by rw [d] at q; cases q⟩
theorem turn_zipM {P : Program} {w : World} {K : PySem.W.Frag} {elts : List Expr} {kk : Nat} {tpos : Pos} {k l : Bool} {a b z TI TO i1 i2 : Addr} (D : ZipSep2 z TI TO i1 i2 [i1, a] [i2, b]) (hTI2 : TI ≠ z) (ha1 : a ≠ i1) (hb2 : b ≠ i2) :
    Turn P w K (.Tuple elts kk tpos) (ItzM K k l a b) [z, TI, TO, i1, i2] z (fun i h => IsZip h z TI TO .none ∧ IsPair h TI (.ref i1) (.ref i2) ∧ (∃ x y, IsPair h TO x y) ∧ kIter k h i1 a i ∧ kIter l h i2 b i) where
  mem := by simp
  obj := fun i h st c hc => by
    obtain ⟨hz, hTI, ⟨x, y, hTO⟩, h1, h2⟩ := st
    have e' : c = z ∨ c = TI ∨ c = TO ∨ c = i1 ∨ c = i2 := by simpa using hc
    rcases e' with q | q | q | q | q
    · rw [q]; exact ⟨_, hz, fun v q => nomatch q⟩
    · rw [q]; exact ⟨_, hTI, fun v q => nomatch q⟩
    · rw [q]; exact ⟨_, hTO, fun v q => nomatch q⟩
    · rw [q]; exact h1.ob
    · rw [q]; exact h2.ob
  keep := fun i h h' st k => by
    obtain ⟨hz, hTI, ⟨x, y, hTO⟩, h1, h2⟩ := st
    exact ⟨k z (by simp) _ hz, k TI (by simp) _ hTI, ⟨x, y, k TO (by simp) _ hTO⟩, h1.at fun o q => k i1 (by simp) o q, h2.at fun o q => k i2 (by simp) o q⟩
  item := by
    intro X hP hw hK hc i pins s σ H E I hf st hg
    subst hP hw hK
    obtain ⟨hz, hTI, ⟨x0, y0, hTO⟩, h1, h2⟩ := st
    obtain ⟨xs, ys, x, y, hqx, hqy, hx, hy⟩ := hg
    obtain ⟨its, rv, p⟩ := kSeq_of I hqx
    obtain ⟨its2, rv2, p2⟩ := kSeq_of I hqy
    obtain ⟨u, hu, ru⟩ := rv.get hx
    obtain ⟨u2, hu2, ru2⟩ := rv2.get hy
    have hh : X.A.in1.handled = none := I.ok.hd hc
    have hzl : z < s.heap.objs.size := Heap.lt_size hz
    have l1 : i < its.toArray.size := by
      have := (List.getElem?_eq_some_iff.mp hu).1
      simpa using this
    have l2 : i < its2.toArray.size := by
      have := (List.getElem?_eq_some_iff.mp hu2).1
      simpa using this
    refine wpAny_pyNext_zipD2_item D (drawsK hh k i1 a ha1 its.toArray) (drawsK hh l i2 b hb2 its2.toArray) hz hTI hTO ⟨h1, p⟩ ⟨h2, p2⟩ l1 l2 fun v1 v2 h' tk e1 e2 z' TO' st1 st2 hT hsz hk => ?_
    have ex : v1 = u := by
      have q1 : its.toArray[i]? = some v1 := e1
      have q2 : its.toArray[i]? = some u := by simpa using hu
      exact Option.some.inj (q1.symm.trans q2)
    have ey : v2 = u2 := by
      have q1 : its2.toArray[i]? = some v2 := e2
      have q2 : its2.toArray[i]? = some u2 := by simpa using hu2
      exact Option.some.inj (q1.symm.trans q2)
    subst ex ey
    refine ⟨_, rfl, wpAny_letOwnedTupleGo_zip (s := { s with heap := h', toks := tk }) z' fun h'' z'' sb => ?_⟩
    have hT2 : h''.get? s.heap.objs.size = some { cls := .type "tuple", data := .seq #[v1, v2] } := (sb.2 _ (Nat.ne_of_gt hzl)).trans hT
    have new : ObjOk X.prog X.w (upd H s.heap.objs.size (.tup [x, y])) h'' s.heap.objs.size (.tup [x, y]) :=
      ⟨by show 2 ≤ sizeLine; decide, [v1, v2], .cons ru (.cons ru2 .nil), ⟨_, hT2, rfl, _, rfl⟩⟩
    have I1 : Inv X pins σ (upd H s.heap.objs.size (.tup [x, y])) { s with heap := h'', toks := tk } :=
      I.turnedNew (t' := tk) (ch := [z, TI, TO, i1, i2]) (fun c o hb q => (sb.2 c (fun q' => hb (by simp [q']))).trans (hk c o (fun q' => hb (by simp [q'])) (fun q' => hb (by simp [q'])) (fun q' => hb (by simp [q'])) (fun q' => hb (by simp [q'])) q)) hf (Nat.le_refl _) new
    refine ⟨.ref s.heap.objs.size, _, I1, rfl, ⟨_, x, y, rfl, I.hok.fresh (Nat.le_refl _), rfl, fun l hl => by rw [sqK_inj I hl hqx]; exact hx, fun l hl => by rw [sqK_inj I hl hqy]; exact hy⟩, ⟨z'', ?_, ⟨v1, v2, ?_⟩, ?_, ?_⟩, fun c hcm => ?_⟩
    · exact (sb.2 _ D.TIz).trans (hk _ _ D.TIz D.TITO D.TIi1 D.TIi2 hTI)
    · exact (sb.2 _ D.TOz).trans TO'
    · exact st1.1.at fun o q => (sb.2 _ (Ne.symm D.zi1)).trans q
    · exact st2.1.at fun o q => (sb.2 _ (Ne.symm D.zi2)).trans q
    · have hlt : c < s.heap.objs.size := by
        have e' : c = z ∨ c = TI ∨ c = TO ∨ c = i1 ∨ c = i2 := by simpa using hcm
        rcases e' with q | q | q | q | q
        · rw [q]; exact hzl
        · rw [q]; exact Heap.lt_size hTI
        · rw [q]; exact Heap.lt_size hTO
        · rw [q]; obtain ⟨_, e1, _⟩ := h1.ob; exact Heap.lt_size e1
        · rw [q]; obtain ⟨_, e2, _⟩ := h2.ob; exact Heap.lt_size e2
      rw [upd_ne (Nat.ne_of_lt hlt)]
      exact (hf c hcm).1
  done := by
    intro X hP hw hK hc i pins s σ H E I hf st hg
    subst hP hw hK
    obtain ⟨hz, hTI, ⟨x0, y0, hTO⟩, h1, h2⟩ := st
    obtain ⟨xs, ys, hqx, hqy, hend⟩ := hg
    obtain ⟨its, rv, p⟩ := kSeq_of I hqx
    obtain ⟨its2, rv2, p2⟩ := kSeq_of I hqy
    have l1 := rv.length
    have l2 := rv2.length
    have hh : X.A.in1.handled = none := I.ok.hd hc
    have fin : ∀ (h' : Heap) (tk : Nat), (∀ c o, c ≠ z → c ≠ TO → c ≠ i1 → c ≠ i2 → s.heap.get? c = some o → h'.get? c = some o) → Inv X pins σ H { s with heap := h', toks := tk } := fun h' tk hk => I.turnedL (t' := tk) (ch := [z, TI, TO, i1, i2]) (fun c o hb q =>
      hk c o (fun q' => hb (by simp [q'])) (fun q' => hb (by simp [q'])) (fun q' => hb (by simp [q'])) (fun q' => hb (by simp [q'])) q) hf
    by_cases e1 : its.toArray.size ≤ i
    · by_cases e2 : its2.toArray.size ≤ i
      · exact wpAny_pyNext_zipD2_end D (drawsE hh k i1 a ha1 its.toArray i e1) (drawsE hh l i2 b hb2 its2.toArray i e2) hz hTI hTO ⟨rfl, h1, p⟩ ⟨rfl, h2, p2⟩ (Nat.le_refl _) (Nat.le_refl _) (.inl rfl) fun h' tk hk => ⟨rfl, fin h' tk hk⟩
      · exact wpAny_pyNext_zipD2_end D (drawsE hh k i1 a ha1 its.toArray i e1) (drawsK hh l i2 b hb2 its2.toArray) hz hTI hTO ⟨rfl, h1, p⟩ ⟨h2, p2⟩ (Nat.le_refl _) (by omega) (.inl rfl) fun h' tk hk => ⟨rfl, fin h' tk hk⟩
    · have e2 : its2.toArray.size ≤ i := by
        rcases hend with q | q
        · exact absurd (by simp; omega) e1
        · simp; omega
      exact wpAny_pyNext_zipD2_end D (drawsK hh k i1 a ha1 its.toArray) (drawsE hh l i2 b hb2 its2.toArray i e2) hz hTI hTO ⟨h1, p⟩ ⟨rfl, h2, p2⟩ (by omega) (Nat.le_refl _) (.inr rfl) fun h' tk hk => ⟨rfl, fin h' tk hk⟩
  self := fun A i s Q E st h => wpAny_pyIter_zip st.1 h
def oIter (k : Bool) (a : Addr) : Obj := if k = true then { cls := .type "tuple_iterator", data := .fields #[.ref a, .int 0 0] } else { cls := .type "list_iterator", data := .fields #[.ref a, .int 0 0] }
theorem beginsK (k : Bool) (a : Addr) (items : Array Value) : Begins (.ref a) (oIter k a) fun h => kSeq k h a items := by
  cases k with
  | true => exact begins_tuple a items
  | false => exact begins_list a items
theorem kIter_0 {k : Bool} {h : Heap} {it a : Addr} (e : h.get? it = some (oIter k a)) : kIter k h it a 0 := by
  cases k with
  | true => exact ⟨_, e, rfl, rfl⟩
  | false => exact ⟨_, e, rfl, rfl⟩
def iZipM (K : PySem.W.Frag) (ta : TA) : TI := fun σ H R => ta σ H fun vs H1 => ∃ k l a b xs ys, vs = [.ref a, .ref b] ∧ SqK K k H1 a xs ∧ SqK K l H1 b ys ∧ R (ItzM K k l a b) H1
theorem pi_zipM {X : Cx} {e e2 : Expr} {ta : TA} {p pos tpos : Pos} {elts : List Expr} {kk : Nat} (hg : Gl X "zip") (hm : X.mg "zip" = none) (ha : PA X [e, e2] ta)
    (hs : starEach [e, e2] X.env = (false, eval e X.env) :: starEach [e2] X.env := by rfl) (hpl : (backTo pos (starEach [e2] X.env)).any (·.1) = false := by rfl) :
    PI X (.Tuple elts kk tpos) (.Call (.Name "zip" p) [e, e2] [] pos) (iZipM X.K ta) := by
  refine ⟨fun pins s σ H R I h => ?_⟩
  refine Call_ (ld_blt I hg hm PyProof.Rows.boot_zip (PyProof.Rows.callWith_type1 (thn (ha.run pos pins s σ H _ I h) fun us s1 ⟨vs, H1, I1, r1, q1⟩ => ?_) hs hpl))
  obtain ⟨k, l, a, b, xs, ys, ex, hqx, hqy, q⟩ := q1
  subst ex
  cases r1 with
  | cons r rr =>
    cases rr with
    | cons r' rr =>
      cases rr
      cases r
      cases r'
      have fresh5 : ∀ c, c ∈ [s1.heap.objs.size + 4, s1.heap.objs.size + 2, s1.heap.objs.size + 3, s1.heap.objs.size, s1.heap.objs.size + 1] → FpOk X pins H1 c := fun c hcm => by
        have e' : c = s1.heap.objs.size + 4 ∨ c = s1.heap.objs.size + 2 ∨ c = s1.heap.objs.size + 3 ∨ c = s1.heap.objs.size ∨ c = s1.heap.objs.size + 1 := by simpa using hcm
        have hle : s1.heap.objs.size ≤ c := by
          rcases e' with z | z | z | z | z
          · rw [z]; exact Nat.le_add_right _ _
          · rw [z]; exact Nat.le_add_right _ _
          · rw [z]; exact Nat.le_add_right _ _
          · rw [z]; exact Nat.le_refl _
          · rw [z]; exact Nat.le_add_right _ _
        exact I1.fpOk hle (I1.hok.fresh hle)
      obtain ⟨its, rv, p1⟩ := kSeq_of I1 hqx
      obtain ⟨its2, rv2, p2⟩ := kSeq_of I1 hqy
      have la : a < s1.heap.objs.size := by
        cases k with
        | true => obtain ⟨o, ho, _⟩ := (id p1 : s1.heap.IsTuple a its.toArray); exact Heap.lt_size ho
        | false => obtain ⟨o, ho, _⟩ := (id p1 : s1.heap.IsList a its.toArray); exact Heap.lt_size ho
      have lb : b < s1.heap.objs.size := by
        cases l with
        | true => obtain ⟨o, ho, _⟩ := (id p2 : s1.heap.IsTuple b its2.toArray); exact Heap.lt_size ho
        | false => obtain ⟨o, ho, _⟩ := (id p2 : s1.heap.IsList b its2.toArray); exact Heap.lt_size ho
      refine zip_begins2 (beginsK k a its.toArray) (beginsK l b its2.toArray) p1 p2 fun h' hz hTI hTO h1 h2 hsz hk => wpAny_pyIter_zip hz ?_
      have I2 : Inv X pins σ H1 { s1 with heap := h' } := I1.kept (t' := s1.toks) hk
      have D : ZipSep2 (s1.heap.objs.size + 4) (s1.heap.objs.size + 2) (s1.heap.objs.size + 3) s1.heap.objs.size (s1.heap.objs.size + 1) [s1.heap.objs.size, a] [s1.heap.objs.size + 1, b] :=
        zip_sep2 (fp1 := [a]) (fp2 := [b]) (fun c hc => by have : c = a := by simpa using hc
                                                           rw [this]; exact la) (fun c hc => by have : c = b := by simpa using hc
                                                                                                rw [this]; exact lb)
      exact ⟨s1.heap.objs.size + 4, [s1.heap.objs.size + 4, s1.heap.objs.size + 2, s1.heap.objs.size + 3, s1.heap.objs.size, s1.heap.objs.size + 1], _, _, H1, rfl, I2, turn_zipM D D.TIz (Nat.ne_of_lt la) (Nat.ne_of_lt (Nat.lt_succ_of_lt lb)), ⟨hz, hTI, ⟨_, _, hTO⟩, kIter_0 h1, kIter_0 h2⟩, fresh5, q⟩
end RZ
namespace FS
open PySem PySem.Spec L2
theorem enum_zipM {K : PySem.W.Frag} {G : Wd} {k l : Bool} {a b : Addr} {vs ws : List V} {xs ys : List PV} (r1 : RepL K G xs vs) (r2 : RepL K G ys ws) (h1 : ∀ G1, Mon G G1 → RZ.SqK K k G1.H a vs) (h2 : ∀ G1, Mon G G1 → RZ.SqK K l G1.H b ws) : Enum K (RZ.ItzM K k l a b) G ((xs.zip ys).map fun c => PV.tuz [c.1, c.2]) :=
  ⟨fun i G1 M hl => ⟨vs, ws, h1 G1 M, h2 G1 M, by
    rw [List.length_map, List.length_zip] at hl
    rw [← r1.length, ← r2.length]
    omega⟩, fun i p G1 M su e => by
    rw [List.getElem?_map] at e
    cases q : (xs.zip ys)[i]? with
    | none => rw [q] at e; cases e
    | some c =>
      rw [q] at e
      cases e
      obtain ⟨e1, e2⟩ := zip_get q
      obtain ⟨v, f1, g1⟩ := r1.get e1
      obtain ⟨w, f2, g2⟩ := r2.get e2
      refine ⟨⟨vs, ws, v, w, h1 G1 M, h2 G1 M, f1, f2⟩, fun x H' y => ?_⟩
      obtain ⟨T, x1, y1, rfl, hn, rfl, k1, k2⟩ := y
      have := k1 vs (h1 G1 M)
      rw [f1] at this
      cases this
      have := k2 ws (h2 G1 M)
      rw [f2] at this
      cases this
      obtain ⟨z1, z2, z3⟩ := pair_new su hn (g1.mon M) (g2.mon M)
      exact ⟨_, rfl, z1, z2, z3⟩⟩
section
variable {X : Cx} {z : Zx} {pos p : Pos} {da : Cd (List PV)}
/-- zip of two sequences -/
def zipM (ps : List PV) : Option (List PV) := match ps with
  | [p, q] => match itemsF p, itemsF q with
    | some xs, some ys => some ((xs.zip ys).map fun c => PV.tuz [c.1, c.2])
    | _, _ => none
  | _ => none
def dZipM (d : Cd (List PV)) : Cd (List PV) := bnd d fun ps => lift (zipM ps)
theorem itemsF_K {K : PySem.W.Frag} {G : Wd} {p : PV} {xs : List PV} {v : V} (h : itemsF p = some xs) (r : Rep K G p v) : ∃ k a vs, v = .ref a ∧ RepL K G xs vs ∧ ∀ G1, Mon G G1 → RZ.SqK K k G1.H a vs := by
  obtain ⟨a, vs, e, rr, hh⟩ := itemsF_rep h r
  rcases hh with hh | hh
  · exact ⟨false, a, vs, e, rr, hh⟩
  · exact ⟨true, a, vs, e, rr, hh⟩
theorem mi_zipM {a b : Expr} {elts : List Expr} {kk : Nat} {tpos : Pos} (hm : X.mg "zip" = none) (ha : MA X z [a, b] da) (hK : z.K = X.K := by rfl) (hg : Gl X "zip" := by rfl) (hs : starEach [a, b] X.env = (false, eval a X.env) :: starEach [b] X.env := by rfl) (hpl : (backTo pos (starEach [b] X.env)).any (·.1) = false := by rfl) :
    MI X z (.Tuple elts kk tpos) (.Call (.Name "zip" p) [a, b] [] pos) (dZipM da) := by
  refine PI.imp (RZ.pi_zipM hg hm ha hs hpl) fun σ H R ⟨G, env, S, e, A, P⟩ => ?_
  subst e
  refine toA lwI A P fun ps env1 S1 vs G1 m1 A1 r1 P1 => ?_
  unfold lift at P1
  cases e : zipM ps with
  | none => simp only [e] at P1; exact P1.elim
  | some qs =>
    simp only [e] at P1
    match ps, e with
    | [p, q], e =>
      obtain ⟨v, w, rfl, r2, r3⟩ := repL2 r1
      simp only [zipM] at e
      cases e1 : itemsF p with
      | none => simp only [e1] at e; cases e
      | some xs =>
        cases e2 : itemsF q with
        | none => simp only [e1, e2] at e; cases e
        | some ys =>
          simp only [e1, e2] at e
          cases e
          rw [← hK]
          obtain ⟨k, a1, us, rfl, s1, k1⟩ := itemsF_K e1 r2
          obtain ⟨l, a2, ts, rfl, s2, k2⟩ := itemsF_K e2 r3
          exact ⟨k, l, a1, a2, us, ts, rfl, k1 G1 (Mon.refl _), k2 G1 (Mon.refl _), P1 _ G1 (Mon.refl _) A1 (enum_zipM s1 s2 k1 k2)⟩
end
end FS
set_option Elab.async false
set_option linter.all false
set_option maxRecDepth 100000
/-! FsTry: try with several clauses, each with or without a name. -/
namespace L2
open PySem PySem.Spec PyProof.Rows
/-- a clause: the class, the name's place (if there is one), the suite -/
abbrev Clause := Value × Option Nat × (Addr → Value → Option Addr → TS)
inductive ClOk (X : Cx) : List ExceptHandler → List Clause → Prop
  | nil : ClOk X [] []
  | bare {x : Str} {c : Value} {ts : Addr → Value → Option Addr → TS} {b0 : Stmt} {suite : List Stmt} {np pos' : Pos} {hds : List ExceptHandler} {l : List Clause} (hc : Names X x c)
      (hsu : ∀ (a : Addr) (oe : Obj) (cls : Value) (d : Option Addr) (pn : List (Addr × Obj)), Zc cls d oe → (∃ vs, oe.data = .fields vs) → PSs (X.suite a ((a, oe) :: pn)) (b0 :: suite) (ts a cls d)) (r : ClOk X hds l) :
      ClOk X (.ExceptHandler (some (.Name x np)) none (b0 :: suite) pos' :: hds) ((c, none, ts) :: l)
  | named {x n : Str} {i : Nat} {c : Value} {ts : Addr → Value → Option Addr → TS} {b0 : Stmt} {suite : List Stmt} {np pos' : Pos} {hds : List ExceptHandler} {l : List Clause} (hc : Names X x c) (hi : X.N[i]? = some n) (hln : X.env.kindOf n = some .local)
      (hsu : ∀ (a : Addr) (oe : Obj) (cls : Value) (d : Option Addr) (pn : List (Addr × Obj)), Zc cls d oe → (∃ vs, oe.data = .fields vs) → PSs (X.suite a ((a, oe) :: pn)) (b0 :: suite) (ts a cls d)) (r : ClOk X hds l) :
      ClOk X (.ExceptHandler (some (.Name x np)) (some n) (b0 :: suite) pos' :: hds) ((c, some i, ts) :: l)
/-- an error in flight stands in the handler's hands: what the clauses look at -/
structure Caught (X : Cx) (B : Heap) (pins : List (Addr × Obj)) (σ : St) (H : Hp) (sI : Shared) (a : Addr) (cls : Value) (d : Option Addr) (s : Shared) : Prop where
  J : Inv X pins σ H sI
  nb : ∀ b o, sI.heap.get? b = some o → b ∉ frs X.stack → B.get? b = some o
  fl : HandSPX.FlyingZ B (X.env :: X.outer) a (Zc cls d) s.heap
  up : sI.heap.UpToSlots s.heap
  os : s.os = sI.os
  ag : AllBare s.gens
  na : H a = none
  nL : a ≠ X.env.locals
  nF : a ∉ X.fs
section
variable {X : Cx} {pins : List (Addr × Obj)} {σ : St} {H : Hp} {sI s : Shared} {a : Addr} {cls : Value} {d : Option Addr} {B : Heap}
theorem Caught.inv (c : Caught X B pins σ H sI a cls d s) : Inv X pins σ H s := c.J.landed c.nb c.fl.1 c.up c.os c.ag
theorem Caught.suite (c : Caught X B pins σ H sI a cls d s) : ∃ oe, Zc cls d oe ∧ (∃ vs, oe.data = .fields vs) ∧ Inv (X.suite a ((a, oe) :: (X.pn ++ pins))) [] σ H s := by
  obtain ⟨oe, vs, he, hz, hd⟩ := c.fl.there
  exact ⟨oe, hz, ⟨vs, hd⟩, c.inv.suite he hd c.na c.nL c.nF⟩
/-- the class that a clause names is read -/
theorem Caught.names (c : Caught X B pins σ H sI a cls d s) {x : Str} {np : Pos} {cv : Value} (hc : Names X x cv) {Q : Value → Shared → Prop} {E : Value → Shared → Prop} (q : Q cv s) :
    wpAny (model X.prog X.w) (X.A.mark (some (.ref a))) (eval (.Name x np) X.env) Q E s := by
  obtain ⟨oe, _, _, S⟩ := c.suite
  obtain ⟨hg, hdbg, hm | ⟨hm, hv, hnn⟩⟩ := hc
  · exact ld_glob (X := X.suite a ((a, oe) :: (X.pn ++ pins))) S hg hm q hdbg
  · exact ld_blt (X := X.suite a ((a, oe) :: (X.pn ++ pins))) S hg hm hv q hnn hdbg
end
end L2
set_option Elab.async false
set_option linter.all false
set_option maxRecDepth 100000
/-! FsTry2: try as data; what a caught error tells. -/
namespace L2
open PySem PySem.Spec PyProof.Rows
end L2
namespace FS
open PySem PySem.Spec L2
/-- which clauses take which errors -/
def catches (h c : Str) : Bool := decide (h = c) || decide (h = ("Refused" : Str)) || decide (h = ("ValueError" : Str))
def clearO (i : Nat) : Out Flw → Out Flw
  | .ok f e s => .ok f (e.set i .none) s
  | _ => .bad
def quiet : Out Flw → Out Flw
  | .ok f e s => .ok f e s
  | _ => .bad
/-- a clause: its class's name, its name's place, its suite (by the error's class, its address and its dict's) -/
structure Hdl where
  h : Str
  i : Option Nat
  d : Str → Addr → Addr → Cd Flw
open Classical in
noncomputable def hdl : List Hdl → Str → PV → Cd Flw
  | [], c, w => fun e s => .raise c w e s
  | ⟨h, none, d⟩ :: r, c, w => if catches h c = true then fun e s => quiet (d c 0 0 e s) else hdl r c w
  | ⟨h, some i, d⟩ :: r, c, w => if catches h c = true then fun e s => if ∀ a b : Addr, clearO i (d c a b (e.set i (.exc a b w)) s) = clearO i (d c 0 0 (e.set i (.exc 0 0 w)) s) then clearO i (d c 0 0 (e.set i (.exc 0 0 w)) s) else .bad
    else hdl r c w
section
variable {X : Cx} {z : Zx}
abbrev zs (z : Zx) : Zx := ⟨z.K, z.mg, z.G0, fun _ _ _ _ => False⟩
def tsOf (z : Zx) (tab : List Str) (dd : Str → Addr → Addr → Cd Flw) (nm : Bool) : Addr → Value → Option Addr → TS := fun a cls d D σ H => ∃ c b, d = some b ∧ z.mg c = some cls ∧ tab.contains c = true ∧ RS (zs z) (if nm = true then dd c a b else dd c 0 0) D σ H
/-- the clauses of the text, as data -/
inductive HsOk (X : Cx) (z : Zx) (tab : List Str) : List ExceptHandler → List Hdl → List Clause → Prop
  | nil : HsOk X z tab [] [] []
  | bare {x : Str} {cv : Value} {b0 : Stmt} {suite : List Stmt} {np pos' : Pos} {hds : List ExceptHandler} {hs : List Hdl} {l : List Clause} {dd : Str → Addr → Addr → Cd Flw} (hc : Names X x cv) (hex : ∀ c cls, tab.contains c = true → z.mg c = some cls → PySem.W.exmOne X.K cls cv = some (catches x c))
      (hsu : ∀ (a : Addr) (oe : Obj) (cls : Value) (b : Addr) (pn : List (Addr × Obj)) (c : Str), Zc cls (some b) oe → (∃ vs, oe.data = .fields vs) → z.mg c = some cls → tab.contains c = true → MSs (X.suite a ((a, oe) :: pn)) (zs z) (b0 :: suite) (dd c 0 0)) (r : HsOk X z tab hds hs l) :
      HsOk X z tab (.ExceptHandler (some (.Name x np)) none (b0 :: suite) pos' :: hds) (⟨x, none, dd⟩ :: hs) ((cv, none, tsOf z tab dd false) :: l)
  | named {x n : Str} {i : Nat} {cv : Value} {b0 : Stmt} {suite : List Stmt} {np pos' : Pos} {hds : List ExceptHandler} {hs : List Hdl} {l : List Clause} {dd : Str → Addr → Addr → Cd Flw} (hc : Names X x cv) (hi : X.N[i]? = some n) (hln : X.env.kindOf n = some .local)
      (hex : ∀ c cls, tab.contains c = true → z.mg c = some cls → PySem.W.exmOne X.K cls cv = some (catches x c))
      (hsu : ∀ (a : Addr) (oe : Obj) (cls : Value) (b : Addr) (pn : List (Addr × Obj)) (c : Str), Zc cls (some b) oe → (∃ vs, oe.data = .fields vs) → z.mg c = some cls → tab.contains c = true → MSs (X.suite a ((a, oe) :: pn)) (zs z) (b0 :: suite) (dd c a b)) (r : HsOk X z tab hds hs l) :
      HsOk X z tab (.ExceptHandler (some (.Name x np)) (some n) (b0 :: suite) pos' :: hds) (⟨x, some i, dd⟩ :: hs) ((cv, some i, tsOf z tab dd true) :: l)
theorem HsOk.cl {tab : List Str} {hds : List ExceptHandler} {hs : List Hdl} {l : List Clause} (h : HsOk X z tab hds hs l) : ClOk X hds l := by
  induction h with
  | nil => exact .nil
  | @bare x cv b0 suite np pos' hds hs l dd hc hex hsu r ih =>
    refine .bare hc (fun a oe cls d pn hz hv => ⟨fun pins s σ H D I h => ?_⟩) ih
    obtain ⟨c, b, rfl, hm, ht, q⟩ := h
    exact (hsu a oe cls b pn c hz hv hm ht).run pins s σ H D I q
  | @named x n i cv b0 suite np pos' hds hs l dd hc hi hln hex hsu r ih =>
    refine .named hc hi hln (fun a oe cls d pn hz hv => ⟨fun pins s σ H D I h => ?_⟩) ih
    obtain ⟨c, b, rfl, hm, ht, q⟩ := h
    exact (hsu a oe cls b pn c hz hv hm ht).run pins s σ H D I q
variable {G : Wd} {env : Env} {S : Stt} {σ : St}
variable {a b C : Addr} {oe : Obj} {pn : List (Addr × Obj)} {pos p1 p2 p3 : Pos}
end
end FS
set_option Elab.async false
set_option linter.all false
set_option maxRecDepth 100000
/-! FsLaw: a law's end. -/
namespace FS
open PySem PySem.Spec L2
/-- a law's promise: a list of at most 63 ints is handed in, True comes out -/
def spLaw (K : PySem.W.Frag) : Sp := fun vs H Q _ => ∃ (a : Addr) (ns : List Int), vs = [.ref a] ∧ SqL K H a (ns.map V.int) ∧ ns.length ≤ 63 ∧ ∀ H', Q (.bl true) H'
theorem law_imp {P : Program} {w : World} {K : PySem.W.Frag} {mg : Str → Option Value} {base : Heap} {k : Nat} {f : Addr} {fd : FuncData} {x : Str} {den : List PV → Stt → Res} (F : FnOk P w K mg base (L2.CX P w) k f fd [x] (spD K mg 1 den))
    (h : ∀ ns : List Int, ns.length ≤ 63 → ∃ S, den [.scr ns] [] = .ok (.bl true) S) : FnOk P w K mg base (L2.CX P w) k f fd [x] (spLaw K) := by
  refine F.imp fun vs H Q E ⟨a, ns, e, hs, hl, q⟩ => ?_
  subst e
  obtain ⟨S, hS⟩ := h ns hl
  have fin : ∀ (fz : Addr → Prop), (∀ b, fz b → ∃ o, H b = some o ∧ NT o) → Rep K ⟨[], fz, H, []⟩ (.scr ns) (.ref a) → spD K mg 1 den [.ref a] H Q E := fun fz su r => by
    refine ⟨⟨[], fz, H, []⟩, [.scr ns], [], rfl, .cons r .nil, ⟨rfl, List.nodup_nil, fun b hb => absurd hb List.not_mem_nil, fun i b o h1 h2 => by
      have h3 : ([] : List Addr)[i]? = some b := h1
      simp at h3⟩, su, rfl, ?_⟩
    rw [hS]
    exact fun v G' _ _ _ _ rv => by cases rv; exact q _
  rcases hs with hs | hs
  · refine fin (fun b => b = a) (fun b hb => ?_) (.scr (.inl ⟨rfl, .inl hs⟩))
    rw [hb]
    rcases hs with hs | ⟨o, hs⟩
    · exact ⟨_, hs, nt_lst⟩
    · exact ⟨_, hs, nt_frz⟩
  · exact fin (fun _ => False) (fun b hb => hb.elim) (.scr (.inr (.inr hs)))
theorem law_walk {l : PySem.W.OpenLaw} {k : Nat} {q : Program} {loose : List Str} {XP : (Str → Option Value) → Heap → Prop} {YP : World → Heap → Prop} {d : DefRec} {K : Params → PySem.W.Frag} {x : Str}
    (hn : l.most = some 63) (hdf : d.params.defaults = []) (hr : Room k callerA) (hY : ∀ (w : World) (h : Heap), YP w h → (K w.params).In h)
    (F : ∀ (w : World) (mg : Str → Option Value) (fa : Addr) (h : Heap), (K w.params).In h → h.Ns mainGlobals mg → mg d.name = some (.ref fa) →
      ∃ fd : FuncData, (∀ (s : Shared) (u : Value), BindsTo s fd ⟨[u], []⟩ [(x, u)]) ∧ ∀ base : Heap, (K w.params).In base → base.Ns mainGlobals mg → FnOk l.prog w (K w.params) mg base (L2.CX l.prog w) k fa fd [x] (spLaw (K w.params))) :
    PySem.W.WalkO q loose XP YP l.row.toRowW d [] (fun f vs => PySem.call f vs) :=
  L2.walk_of (n := 63) (k := k) (x := x) (CX := fun w => L2.CX l.prog w) (sp := fun w => spLaw (K w.params)) hn (by decide) hdf hr hY F (fun _ _ a ns hl _ hS => ⟨a, ns, rfl, hS, hl, fun _ => rfl⟩) fun _ _ _ _ _ z => by
    obtain ⟨_, _, _, _, _, _, _, _, _, _, _, _, z⟩ := z
    exact z
end FS
set_option Elab.async false
set_option linter.all false
set_option maxRecDepth 100000
/-! FsWp: how a denotation is run, by what is wanted behind it. -/
namespace FS
open PySem L2
abbrev Pq (α : Type) := α → Env → Stt → Prop
abbrev Pr := Str → PV → Env → Stt → Prop
def Wp {α : Type} (o : Out α) (Q : Pq α) (R : Pr) : Prop := match o with
  | .ok a e s => Q a e s
  | .raise c w e s => R c w e s
  | .bad => False
def Fn (r : Res) (Q : PV → Stt → Prop) (R : Str → PV → Stt → Prop) : Prop := match r with
  | .ok p s => Q p s
  | .raise c w s => R c w s
  | .bad => False
abbrev noR : Str → PV → Stt → Prop := fun _ _ _ => False
/-- the ends of a body -/
def FQ (Q : PV → Stt → Prop) : Pq Flw
  | .next, _, s => Q .non s
  | .ret p, _, s => Q p s
  | .brk, _, _ => False
  | .cont, _, _ => False
/-- .. of a statement that others follow -/
def SQ (K : Env → Stt → Prop) (Q : Pq Flw) : Pq Flw
  | .next, e, s => K e s
  | .ret p, e, s => Q (.ret p) e s
  | .brk, e, s => Q .brk e s
  | .cont, e, s => Q .cont e s
/-- .. of a loop's body -/
def LQ (I : Env → Stt → Prop) (Q : Pq Flw) : Pq Flw
  | .next, e, s => I e s
  | .cont, e, s => I e s
  | .ret p, e, s => Q (.ret p) e s
  | .brk, e, s => Q .next e s
section
variable {α β : Type} {e : Env} {s : Stt} {R : Pr}
theorem Wp.mono {o : Out α} {Q Q' : Pq α} {R R' : Pr} (h : Wp o Q R) (hq : ∀ a e s, Q a e s → Q' a e s) (hr : ∀ c w e s, R c w e s → R' c w e s) : Wp o Q' R' := by
  cases o with
  | ok a e s => exact hq _ _ _ h
  | raise c w e s => exact hr _ _ _ _ h
  | bad => exact h
theorem Fn.mono {r : Res} {Q Q' : PV → Stt → Prop} {R R' : Str → PV → Stt → Prop} (h : Fn r Q R) (hq : ∀ a s, Q a s → Q' a s) (hr : ∀ c w s, R c w s → R' c w s) : Fn r Q' R' := by
  cases r with
  | ok a s => exact hq _ _ h
  | raise c w s => exact hr _ _ _ h
  | bad => exact h
theorem Fn.ok {r : Res} {Q : PV → Stt → Prop} (h : Fn r Q noR) : ∃ p s, r = .ok p s ∧ Q p s := by
  cases r with
  | ok a s => exact ⟨a, s, rfl, h⟩
  | raise c w s => exact h.elim
  | bad => exact h.elim
theorem Fn.of {r : Res} {Q : PV → Stt → Prop} {R : Str → PV → Stt → Prop} {p : PV} {s : Stt} (e : r = .ok p s) (h : Q p s) : Fn r Q R := by
  rw [e]
  exact h
theorem wp_ret {a : α} {Q : Pq α} (h : Q a e s) : Wp (ret a e s) Q R := h
theorem wp_bnd {d : Cd α} {k : α → Cd β} {Q : Pq β} (h : Wp (d e s) (fun a e s => Wp (k a e s) Q R) R) : Wp (bnd d k e s) Q R := by
  unfold bnd
  cases q : d e s with
  | ok a e1 s1 => rw [q] at h; exact h
  | raise c w e1 s1 => rw [q] at h; exact h
  | bad => rw [q] at h; exact h
theorem wp_lift {o : Option α} {a : α} {Q : Pq α} (h : o = some a) (hq : Q a e s) : Wp (lift o e s) Q R := by
  subst h
  exact hq
/-! expressions -/
variable {Q : Pq PV}
theorem wp_use {i : Nat} {p : PV} (h : e[i]? = some (.val p)) (hq : Q p e s) : Wp (dUse i e s) Q R := by
  unfold dUse
  rw [h]
  exact hq
theorem wp_useO {i : Nat} {xs : List PV} (h : e[i]? = some (.own xs)) (hq : Q (.lst xs) (e.set i (.val (.lst xs))) s) : Wp (dUse i e s) Q R := by
  unfold dUse
  rw [h]
  exact hq
theorem wp_op {f : Stt → PV → PV → Option PV} {a b : Cd PV} (h : Wp (a e s) (fun p e s => Wp (b e s) (fun q e s => ∃ w, f s p q = some w ∧ Q w e s) R) R) : Wp (dOp f a b e s) Q R := by
  refine wp_bnd (Wp.mono h (fun p e1 s1 h1 => wp_bnd (Wp.mono h1 (fun q e2 s2 ⟨w, e3, h2⟩ => ?_) fun _ _ _ _ h => h)) fun _ _ _ _ h => h)
  show Wp (match f s2 p q with | some w => Out.ok w e2 s2 | none => .bad) Q R
  rw [e3]
  exact h2
theorem wp_un {f : PV → Option PV} {a : Cd PV} (h : Wp (a e s) (fun p e s => ∃ w, f p = some w ∧ Q w e s) R) : Wp (dUn f a e s) Q R :=
  wp_bnd (Wp.mono h (fun p e1 s1 ⟨w, e3, h2⟩ => wp_lift e3 h2) fun _ _ _ _ h => h)
theorem wp_nil {Q : Pq (List PV)} (h : Q [] e s) : Wp (dNil e s) Q R := h
theorem wp_cons {a : Cd PV} {r : Cd (List PV)} {Q : Pq (List PV)} (h : Wp (a e s) (fun p e s => Wp (r e s) (fun ps e s => Q (p :: ps) e s) R) R) : Wp (dCons a r e s) Q R :=
  wp_bnd (Wp.mono h (fun p e1 s1 h1 => wp_bnd h1) fun _ _ _ _ h => h)
theorem wp_tup {d : Cd (List PV)} (h : Wp (d e s) (fun ps e s => ps.length ≤ sizeLine ∧ Q (.tup ps) e s) R) : Wp (dTup d e s) Q R :=
  wp_bnd (Wp.mono h (fun ps e1 s1 ⟨hl, h1⟩ => by rw [if_pos hl]; exact h1) fun _ _ _ _ h => h)
theorem wp_disp {d : Cd (List PV)} {Q : Pq (List PV)} (h : Wp (d e s) (fun ps e s => ps.length ≤ sizeLine ∧ Q ps e s) R) : Wp (dDisp d e s) Q R :=
  wp_bnd (Wp.mono h (fun ps e1 s1 ⟨hl, h1⟩ => by rw [if_pos hl]; exact h1) fun _ _ _ _ h => h)
theorem wp_frz {d : Cd (List PV)} (h : Wp (d e s) (fun ps e s => Q (.lst ps) e s) R) : Wp (dFrz d e s) Q R := wp_bnd h
theorem wp_new {d : Cd (List PV)} (h : Wp (d e s) (fun xs e s => Q (.ref s.length) e (s ++ [.lst xs])) R) : Wp (dNew d e s) Q R := wp_bnd h
theorem wp_b {d : Cd PV} {Q : Pq Bool} (h : Wp (d e s) (fun p e s => ∃ b, asB p = some b ∧ Q b e s) R) : Wp (dB d e s) Q R :=
  wp_bnd (Wp.mono h (fun p e1 s1 ⟨w, e3, h2⟩ => wp_lift e3 h2) fun _ _ _ _ h => h)
theorem wp_tru {d : Cd PV} {Q : Pq Bool} (h : Wp (d e s) (fun p e s => ∃ b, tru s p = some b ∧ Q b e s) R) : Wp (dTru d e s) Q R :=
  wp_bnd (Wp.mono h (fun p e1 s1 ⟨w, e3, h2⟩ => by
    show Wp (match tru s1 p with | some b => Out.ok b e1 s1 | none => .bad) Q R
    rw [e3]
    exact h2) fun _ _ _ _ h => h)
theorem wp_notT {d : Cd Bool} {Q : Pq Bool} (h : Wp (d e s) (fun b e s => Q (!b) e s) R) : Wp (dNotT d e s) Q R := wp_bnd h
theorem wp_andT {d r : Cd Bool} {Q : Pq Bool} (h : Wp (d e s) (fun b e s => (b = true → Wp (r e s) Q R) ∧ (b = false → Q false e s)) R) : Wp (dAndT d r e s) Q R :=
  wp_bnd (Wp.mono h (fun b e1 s1 h1 => by
    cases b with
    | true => exact h1.1 rfl
    | false => exact h1.2 rfl) fun _ _ _ _ h => h)
theorem wp_orT {d r : Cd Bool} {Q : Pq Bool} (h : Wp (d e s) (fun b e s => (b = true → Q true e s) ∧ (b = false → Wp (r e s) Q R)) R) : Wp (dOrT d r e s) Q R :=
  wp_bnd (Wp.mono h (fun b e1 s1 h1 => by
    cases b with
    | true => exact h1.1 rfl
    | false => exact h1.2 rfl) fun _ _ _ _ h => h)
theorem wp_andV {d r : Cd PV} (h : Wp (d e s) (fun p e s => ∃ b, asB p = some b ∧ (b = true → Wp (r e s) Q R) ∧ (b = false → Q (.bl false) e s)) R) : Wp (dAndV d r e s) Q R :=
  wp_bnd (wp_b (Wp.mono h (fun p e1 s1 ⟨b, hb, h1⟩ => ⟨b, hb, by
    cases b with
    | true => exact h1.1 rfl
    | false => exact h1.2 rfl⟩) fun _ _ _ _ h => h))
theorem wp_orV {d r : Cd PV} (h : Wp (d e s) (fun p e s => ∃ b, asB p = some b ∧ (b = true → Q (.bl true) e s) ∧ (b = false → Wp (r e s) Q R)) R) : Wp (dOrV d r e s) Q R :=
  wp_bnd (wp_b (Wp.mono h (fun p e1 s1 ⟨b, hb, h1⟩ => ⟨b, hb, by
    cases b with
    | true => exact h1.1 rfl
    | false => exact h1.2 rfl⟩) fun _ _ _ _ h => h))
theorem wp_notV {d : Cd PV} (h : Wp (d e s) (fun p e s => ∃ b, asB p = some b ∧ Q (.bl (!b)) e s) R) : Wp (dNotV d e s) Q R := wp_bnd (wp_b h)
theorem wp_ife {t : Cd Bool} {a b : Cd PV} (h : Wp (t e s) (fun k e s => (k = true → Wp (a e s) Q R) ∧ (k = false → Wp (b e s) Q R)) R) : Wp (dIfE t a b e s) Q R :=
  wp_bnd (Wp.mono h (fun b e1 s1 h1 => by
    cases b with
    | true => exact h1.1 rfl
    | false => exact h1.2 rfl) fun _ _ _ _ h => h)
theorem wp_chain {f f' : Stt → PV → PV → Option PV} {a b c : Cd PV} (h : Wp (a e s) (fun p e s => Wp (b e s) (fun q e s => ∃ k, f s p q = some (.bl k) ∧ (k = true → Wp (c e s) (fun r e s => ∃ w, f' s q r = some w ∧ Q w e s) R) ∧ (k = false → Q (.bl false) e s)) R) R) : Wp (dChain f f' a b c e s) Q R := by
  refine wp_bnd (Wp.mono h (fun p e1 s1 h1 => wp_bnd (Wp.mono h1 (fun q e2 s2 ⟨k, e3, h2, h3⟩ => ?_) fun _ _ _ _ h => h)) fun _ _ _ _ h => h)
  show Wp (match f s2 p q with
    | some (.bl true) => bnd c (fun r => fun e' s' => match f' s' q r with | some w => .ok w e' s' | none => .bad) e2 s2
    | some (.bl false) => .ok (.bl false) e2 s2
    | _ => .bad) Q R
  rw [e3]
  cases k with
  | false => exact h3 rfl
  | true =>
    refine wp_bnd (Wp.mono (h2 rfl) (fun r e4 s4 ⟨w, e5, h5⟩ => ?_) fun _ _ _ _ h => h)
    show Wp (match f' s4 q r with | some w => Out.ok w e4 s4 | none => .bad) Q R
    rw [e5]
    exact h5
theorem wp_fn {g : Stt → List PV → Option PV} {d : Cd (List PV)} (h : Wp (d e s) (fun ps e s => ∃ w, g s ps = some w ∧ Q w e s) R) : Wp (dFn g d e s) Q R :=
  wp_bnd (Wp.mono h (fun ps e1 s1 ⟨w, e3, h2⟩ => by
    show Wp (match g s1 ps with | some w => Out.ok w e1 s1 | none => .bad) Q R
    rw [e3]
    exact h2) fun _ _ _ _ h => h)
theorem wp_call {n : Nat} {den : List PV → Stt → Res} {d : Cd (List PV)} (h : Wp (d e s) (fun ps e s => ps.length = n ∧ Fn (den ps s) (fun p s => Q p e s) (fun c w s => R c w e s)) R) : Wp (dCall n den d e s) Q R :=
  wp_bnd (Wp.mono h (fun ps e1 s1 ⟨hl, h1⟩ => by
    rw [if_pos hl]
    show Wp (match den ps s1 with | .ok p s' => Out.ok p e1 s' | .raise c w s' => .raise c w e1 s' | .bad => .bad) Q R
    cases q : den ps s1 with
    | ok p s2 => rw [q] at h1; exact h1
    | raise c w s2 => rw [q] at h1; exact h1
    | bad => rw [q] at h1; exact h1) fun _ _ _ _ h => h)
theorem wp_noPart {Q : Pq (Option Int)} (h : Q none e s) : Wp (dNoPart e s) Q R := h
theorem wp_part {d : Cd PV} {Q : Pq (Option Int)} (h : Wp (d e s) (fun p e s => ∃ i, p = .int i ∧ Q (some i) e s) R) : Wp (dPart d e s) Q R :=
  wp_bnd (Wp.mono h (fun p e1 s1 ⟨i, e3, h2⟩ => by
    subst e3
    exact h2) fun _ _ _ _ h => h)
theorem wp_cut {d : Cd PV} {l h' : Cd (Option Int)} (h : Wp (d e s) (fun p e s => Wp (l e s) (fun l e s => Wp (h' e s) (fun u e s => ∃ w, pCut s p l u = some w ∧ Q w e s) R) R) R) : Wp (dCut d l h' e s) Q R :=
  wp_bnd (Wp.mono h (fun p e1 s1 h1 => wp_bnd (Wp.mono h1 (fun l e2 s2 h2 => wp_bnd (Wp.mono h2 (fun u e3 s3 ⟨w, e4, h3⟩ => by
    show Wp (match pCut s3 p l u with | some w => Out.ok w e3 s3 | none => .bad) Q R
    rw [e4]
    exact h3) fun _ _ _ _ h => h)) fun _ _ _ _ h => h)) fun _ _ _ _ h => h)
theorem wp_list {d : Cd PV} {Q : Pq (List PV)} (h : Wp (d e s) (fun p e s => ∃ xs, itemsOf s p = some xs ∧ Q xs e s) R) : Wp (dListF d e s) Q R :=
  wp_bnd (Wp.mono h (fun p e1 s1 ⟨w, e3, h2⟩ => by
    show Wp (match itemsOf s1 p with | some w => Out.ok w e1 s1 | none => .bad) Q R
    rw [e3]
    exact h2) fun _ _ _ _ h => h)
theorem wp_mthO {i : Nat} {mf : List PV → List PV → Option (PV × List PV)} {d : Cd (List PV)} {ys : List PV} (h0 : e[i]? = some (.own ys))
    (h : Wp (d e s) (fun ps e s => ∃ xs w xs', e[i]? = some (.own xs) ∧ mf xs ps = some (w, xs') ∧ Q w (e.set i (.own xs')) s) R) : Wp (dMthO i mf d e s) Q R := by
  unfold dMthO
  simp only [h0]
  refine wp_bnd (Wp.mono h (fun ps e1 s1 ⟨xs, w, xs', q1, q2, h1⟩ => ?_) fun _ _ _ _ h => h)
  simp only [q1, q2]
  exact h1
theorem wp_mthR {mf : List PV → List PV → Option (PV × List PV)} {o : Cd PV} {d : Cd (List PV)} (h : Wp (o e s) (fun p e s => ∃ n ys, p = .ref n ∧ s[n]? = some (.lst ys) ∧ Wp (d e s) (fun ps e s => ∃ xs w xs', s[n]? = some (.lst xs) ∧ mf xs ps = some (w, xs') ∧ Q w e (s.set n (.lst xs'))) R) R) : Wp (dMthR mf o d e s) Q R := by
  refine wp_bnd (Wp.mono h (fun p e1 s1 ⟨n, ys, e2, h2, h3⟩ => ?_) fun _ _ _ _ h => h)
  subst e2
  simp only [h2]
  refine wp_bnd (Wp.mono h3 (fun ps e4 s4 ⟨xs, w, xs', q1, q2, h1⟩ => ?_) fun _ _ _ _ h => h)
  simp only [q1, q2]
  exact h1
/-! statements -/
variable {QS : Pq Flw} {d : Cd PV}
theorem wp_nxt (h : QS .next e s) : Wp (nxt e s) QS R := h
theorem wp_seq {a b : Cd Flw} (h : Wp (a e s) (SQ (fun e s => Wp (b e s) QS R) QS) R) : Wp (dSeq a b e s) QS R :=
  wp_bnd (Wp.mono h (fun f e1 s1 h1 => by cases f <;> exact h1) fun _ _ _ _ h => h)
theorem wp_drop (h : Wp (d e s) (fun _ e s => QS .next e s) R) : Wp (dDrop d e s) QS R := wp_bnd h
theorem wp_dret (h : Wp (d e s) (fun p e s => QS (.ret p) e s) R) : Wp (dRet d e s) QS R := wp_bnd h
theorem wp_if {t : Cd Bool} {a b : Cd Flw} (h : Wp (t e s) (fun k e s => (k = true → Wp (a e s) QS R) ∧ (k = false → Wp (b e s) QS R)) R) : Wp (dIf t a b e s) QS R :=
  wp_bnd (Wp.mono h (fun b e1 s1 h1 => by
    cases b with
    | true => exact h1.1 rfl
    | false => exact h1.2 rfl) fun _ _ _ _ h => h)
theorem wp_set {i : Nat} (h : Wp (d e s) (fun p e s => QS .next (e.set i (.val p)) s) R) : Wp (dSet i d e s) QS R := wp_bnd h
theorem wp_own {i : Nat} {d : Cd (List PV)} (h : Wp (d e s) (fun xs e s => QS .next (e.set i (.own xs)) s) R) : Wp (dOwn i d e s) QS R := wp_bnd h
theorem wp_asg {g : PV → Cd Unit} (h : Wp (d e s) (fun p e s => Wp (g p e s) (fun _ e s => QS .next e s) R) R) : Wp (dAsg d g e s) QS R :=
  wp_bnd (Wp.mono h (fun p e1 s1 h1 => wp_bnd h1) fun _ _ _ _ h => h)
theorem wp_gset {i : Nat} {p : PV} {Q : Pq Unit} (h : Q () (e.set i (.val p)) s) : Wp (gSet i p e s) Q R := h
theorem wp_gtup {n : Nat} {gs : List PV → Cd Unit} {p : PV} {ps : List PV} {Q : Pq Unit} (hp : p = .tup ps) (hl : ps.length = n) (h : Wp (gs ps e s) Q R) : Wp (gTupD n gs p e s) Q R := by
  subst hp
  unfold gTupD
  simp only [hl, if_true]
  exact h
theorem wp_gcons {g : PV → Cd Unit} {gs : List PV → Cd Unit} {p : PV} {ps : List PV} {Q : Pq Unit} (h : Wp (g p e s) (fun _ e s => Wp (gs ps e s) Q R) R) : Wp (gsCons g gs (p :: ps) e s) Q R := wp_bnd h
theorem wp_gnil {Q : Pq Unit} (h : Q () e s) : Wp (gsNil [] e s) Q R := h
theorem wp_par {i j : Nat} {d : Cd (List PV)} (h : Wp (d e s) (fun ps e s => ∃ p q, ps = [p, q] ∧ QS .next ((e.set i (.val p)).set j (.val q)) s) R) : Wp (dPar i j d e s) QS R :=
  wp_bnd (Wp.mono h (fun ps e1 s1 ⟨p, q, e2, h2⟩ => by
    subst e2
    exact h2) fun _ _ _ _ h => h)
theorem wp_setO {i : Nat} {di dv : Cd PV} (h : Wp (dv e s) (fun w e s => ∃ ys, e[i]? = some (.own ys) ∧ Wp (di e s) (fun k e s => ∃ xs j m, e[i]? = some (.own xs) ∧ k = .int j ∧ ixN xs.length j = some m ∧ QS .next (e.set i (.own (xs.set m w))) s) R) R) : Wp (dSetO i di dv e s) QS R := by
  refine wp_bnd (Wp.mono h (fun w e1 s1 ⟨ys, q0, h1⟩ => ?_) fun _ _ _ _ h => h)
  simp only [q0]
  refine wp_bnd (Wp.mono h1 (fun k e2 s2 ⟨xs, j, m, q1, q2, q3, h2⟩ => ?_) fun _ _ _ _ h => h)
  subst q2
  simp only [q1, q3]
  exact h2
theorem wp_setR {o di dv : Cd PV} (h : Wp (dv e s) (fun w e s => Wp (o e s) (fun p e s => Wp (di e s) (fun k e s => ∃ n xs j m, p = .ref n ∧ k = .int j ∧ s[n]? = some (.lst xs) ∧ ixN xs.length j = some m ∧ QS .next e (s.set n (.lst (xs.set m w)))) R) R) R) : Wp (dSetR o di dv e s) QS R := by
  refine wp_bnd (Wp.mono h (fun w e1 s1 h1 => wp_bnd (Wp.mono h1 (fun p e2 s2 h2 => wp_bnd (Wp.mono h2 (fun k e3 s3 ⟨n, xs, j, m, q1, q2, q3, q4, h3⟩ => ?_) fun _ _ _ _ h => h)) fun _ _ _ _ h => h)) fun _ _ _ _ h => h)
  subst q1 q2
  simp only [q3, q4]
  exact h3
theorem wp_raise {c : Str} (h : Wp (d e s) (fun p e s => R c p e s) R) : Wp (dRaise c d e s) QS R := wp_bnd h
/-! loops -/
theorem wp_forL {g : PV → Cd Unit} {b : Cd Flw} (I : Nat → Env → Stt → Prop) : ∀ (ps : List PV) (n : Nat) (e : Env) (s : Stt), I n e s →
    (∀ (i : Nat) (p : PV) (e : Env) (s : Stt), ps[i]? = some p → I (n + i) e s → Wp (g p e s) (fun _ e s => Wp (b e s) (LQ (I (n + i + 1)) QS) R) R) → (∀ e s, I (n + ps.length) e s → QS .next e s) → Wp (dForL g b ps e s) QS R
  | [], n, e, s, h0, _, h2 => h2 e s (by simpa using h0)
  | p :: ps, n, e, s, h0, h1, h2 => by
    refine wp_bnd (Wp.mono (h1 0 p e s rfl (by simpa using h0)) (fun _ e1 s1 q1 => wp_bnd (Wp.mono q1 (fun f e2 s2 q2 => ?_) fun _ _ _ _ h => h)) fun _ _ _ _ h => h)
    have next : I (n + 1) e2 s2 → Wp (dForL g b ps e2 s2) QS R := fun hi => wp_forL I ps (n + 1) e2 s2 hi (fun i p e s hp hI => by
      have e1 : n + 1 + i = n + (i + 1) := by omega
      rw [e1] at hI ⊢
      exact h1 (i + 1) p e s (by simpa using hp) hI) (fun e s hI => h2 e s (by
      have e1 : n + (p :: ps).length = n + 1 + ps.length := by simp; omega
      rw [e1]
      exact hI))
    cases f with
    | next => exact next q2
    | cont => exact next q2
    | brk => exact q2
    | ret v => exact q2
theorem wp_for {it : Cd (List PV)} {g : PV → Cd Unit} {b : Cd Flw} (h : Wp (it e s) (fun ps e s => ∃ I : Nat → Env → Stt → Prop, I 0 e s ∧ (∀ (i : Nat) (p : PV) (e : Env) (s : Stt), ps[i]? = some p → I i e s → Wp (g p e s) (fun _ e s => Wp (b e s) (LQ (I (i + 1)) QS) R) R) ∧ ∀ e s, I ps.length e s → QS .next e s) R) :
    Wp (dFor it g b e s) QS R :=
  wp_bnd (Wp.mono h (fun ps e1 s1 ⟨I, h0, h1, h2⟩ => wp_forL I ps 0 e1 s1 h0 (fun i p e s hp hI => by
    rw [Nat.zero_add] at hI ⊢
    exact h1 i p e s hp hI) (fun e s hI => h2 e s (by rw [Nat.zero_add] at hI; exact hI))) fun _ _ _ _ h => h)
theorem wp_items {Q : Pq (List PV)} (h : Wp (d e s) (fun p e s => ∃ xs, itemsF p = some xs ∧ Q xs e s) R) : Wp (dItems d e s) Q R := wp_bnd (Wp.mono h (fun p e1 s1 ⟨xs, q, h1⟩ => wp_lift q h1) fun _ _ _ _ h => h)
theorem wp_rng1 {d : Cd (List PV)} {Q : Pq (List PV)} (h : Wp (d e s) (fun ps e s => ∃ xs, rng1 ps = some xs ∧ Q xs e s) R) : Wp (dRng1 d e s) Q R := wp_bnd (Wp.mono h (fun p e1 s1 ⟨xs, q, h1⟩ => wp_lift q h1) fun _ _ _ _ h => h)
theorem wp_rng2 {d : Cd (List PV)} {Q : Pq (List PV)} (h : Wp (d e s) (fun ps e s => ∃ xs, rng2 ps = some xs ∧ Q xs e s) R) : Wp (dRng2 d e s) Q R := wp_bnd (Wp.mono h (fun p e1 s1 ⟨xs, q, h1⟩ => wp_lift q h1) fun _ _ _ _ h => h)
theorem wp_zip {d : Cd (List PV)} {Q : Pq (List PV)} (h : Wp (d e s) (fun ps e s => ∃ xs, zip2 ps = some xs ∧ Q xs e s) R) : Wp (dZip d e s) Q R := wp_bnd (Wp.mono h (fun p e1 s1 ⟨xs, q, h1⟩ => wp_lift q h1) fun _ _ _ _ h => h)
theorem wp_while {c : Cd Bool} {b : Cd Flw} (I : Env → Stt → Prop) (m : Env → Stt → Nat) (h0 : I e s)
    (h1 : ∀ e s, I e s → Wp (c e s) (fun k e1 s1 => (k = true → Wp (b e1 s1) (LQ (fun e2 s2 => I e2 s2 ∧ m e2 s2 < m e s) QS) R) ∧ (k = false → QS .next e1 s1)) R) : Wp (dWhile c b e s) QS R := by
  suffices h : ∀ (n : Nat) (e : Env) (s : Stt), m e s < n → I e s → Wp (iterW c b n e s) QS R by
    have q := h (m e s + 1) e s (Nat.lt_succ_self _) h0
    have hb : iterW c b (m e s + 1) e s ≠ .bad := fun z => by rw [z] at q; exact q
    rw [dWhile_of rfl hb]
    exact q
  intro n
  induction n with
  | zero => intro e s h; exact absurd h (Nat.not_lt_zero _)
  | succ n ih =>
    intro e s hm hI
    refine wp_bnd (Wp.mono (h1 e s hI) (fun k e1 s1 ⟨q1, q2⟩ => ?_) fun _ _ _ _ h => h)
    cases k with
    | false => exact q2 rfl
    | true =>
      rw [if_pos rfl]
      refine wp_bnd (Wp.mono (q1 rfl) (fun f e2 s2 q3 => ?_) fun _ _ _ _ h => h)
      cases f with
      | next => exact ih e2 s2 (Nat.lt_of_lt_of_le q3.2 (Nat.le_of_lt_succ hm)) q3.1
      | cont => exact ih e2 s2 (Nat.lt_of_lt_of_le q3.2 (Nat.le_of_lt_succ hm)) q3.1
      | brk => exact q3
      | ret v => exact q3
theorem fn_run {n k : Nat} {b : Cd Flw} {ps : List PV} {s : Stt} {Q : PV → Stt → Prop} {R : Str → PV → Stt → Prop} (hl : ps.length = k) (h : Wp (b (ps.map Slot.val ++ List.replicate (n - k) Slot.none) s) (FQ Q) (fun c w _ s => R c w s)) : Fn (runD n k b ps s) Q R := by
  unfold runD
  rw [if_pos hl]
  cases q : b (ps.map Slot.val ++ List.replicate (n - k) Slot.none) s with
  | bad => rw [q] at h; exact h
  | raise c w e s => rw [q] at h; exact h
  | ok f e s =>
    rw [q] at h
    cases f <;> exact h
/-! comprehensions -/
theorem wp_compL {own : List Nat} {g : PV → Cd Unit} {t : Cd Bool} {d : Cd PV} {QL : Pq (List PV)} (I : Nat → List PV → Env → Stt → Prop) : ∀ (ps : List PV) (n : Nat) (acc : List PV) (e : Env) (s : Stt), I n acc e s →
    (∀ (i : Nat) (p : PV) (acc : List PV) (e : Env) (s : Stt), ps[i]? = some p → I (n + i) acc e s → Wp (g p e s) (fun _ e s => Wp (t e s) (fun k e s => (k = true → Wp (d e s) (fun w e s => acc.length < sizeLine ∧ I (n + i + 1) (acc ++ [w]) (wipeE e own) s) R) ∧ (k = false → I (n + i + 1) acc (wipeE e own) s)) R) R) →
    (∀ acc e s, I (n + ps.length) acc e s → QL acc e s) → Wp (compL own g t d ps acc e s) QL R
  | [], n, acc, e, s, h0, _, h2 => h2 acc e s (by simpa using h0)
  | p :: ps, n, acc, e, s, h0, h1, h2 => by
    have go : ∀ (acc : List PV) (e : Env) (s : Stt), I (n + 1) acc e s → Wp (compL own g t d ps acc e s) QL R := fun acc e s hi => wp_compL I ps (n + 1) acc e s hi (fun i p acc e s hp hI => by
      have e1 : n + 1 + i = n + (i + 1) := by omega
      rw [e1] at hI ⊢
      exact h1 (i + 1) p acc e s (by simpa using hp) hI) (fun acc e s hI => h2 acc e s (by
      have e1 : n + (p :: ps).length = n + 1 + ps.length := by simp; omega
      rw [e1]
      exact hI))
    refine wp_bnd (Wp.mono (h1 0 p acc e s rfl (by simpa using h0)) (fun _ e1 s1 q1 => wp_bnd (Wp.mono q1 (fun k e2 s2 ⟨q2, q3⟩ => ?_) fun _ _ _ _ h => h)) fun _ _ _ _ h => h)
    cases k with
    | false =>
      rw [if_neg Bool.false_ne_true]
      exact go acc (wipeE e2 own) s2 (q3 rfl)
    | true =>
      rw [if_pos rfl]
      refine wp_bnd (Wp.mono (q2 rfl) (fun w e3 s3 ⟨hl, q4⟩ => ?_) fun _ _ _ _ h => h)
      rw [if_pos hl]
      exact go (acc ++ [w]) (wipeE e3 own) s3 q4
theorem wp_comp {items : Cd (List PV)} {own : List Nat} {g : PV → Cd Unit} {t : Cd Bool} {d : Cd PV} {QL : Pq (List PV)}
    (h : Wp (items e s) (fun ps e1 s => ∃ I : Nat → List PV → Env → Stt → Prop, I 0 [] (wipeE e1 own) s ∧
      (∀ (i : Nat) (p : PV) (acc : List PV) (e : Env) (s : Stt), ps[i]? = some p → I i acc e s → Wp (g p e s) (fun _ e s => Wp (t e s) (fun k e s => (k = true → Wp (d e s) (fun w e s => acc.length < sizeLine ∧ I (i + 1) (acc ++ [w]) (wipeE e own) s) (fun _ _ _ _ => False)) ∧ (k = false → I (i + 1) acc (wipeE e own) s)) (fun _ _ _ _ => False)) (fun _ _ _ _ => False)) ∧
      ∀ acc e2 s, I ps.length acc e2 s → QL acc (restE e1 e2 own) s) R) : Wp (dComp items own g t d e s) QL R := by
  refine wp_bnd (Wp.mono h (fun ps e1 s1 ⟨I, h0, h1, h2⟩ => ?_) fun _ _ _ _ h => h)
  have q := wp_compL (R := fun _ _ _ _ => False) (QL := fun acc e2 s => QL acc (restE e1 e2 own) s) (own := own) (g := g) (t := t) (d := d) I ps 0 [] (wipeE e1 own) s1 h0 (fun i p acc e s hp hI => by
    rw [Nat.zero_add] at hI ⊢
    exact h1 i p acc e s hp hI) (fun acc e s hI => h2 acc e s (by rw [Nat.zero_add] at hI; exact hI))
  show Wp (match compL own g t d ps [] (wipeE e1 own) s1 with | .ok xs e2 s2 => Out.ok xs (restE e1 e2 own) s2 | _ => .bad) QL R
  cases r : compL own g t d ps [] (wipeE e1 own) s1 with
  | ok xs e2 s2 => rw [r] at q; exact q
  | raise c w e2 s2 => rw [r] at q; exact q.elim
  | bad => rw [r] at q; exact q.elim
end
end FS
set_option Elab.async false
set_option linter.all false
set_option maxRecDepth 100000
/-! FsAuto: running a denotation, step by step. -/
namespace FS
open PySem L2
section
variable {e : Env} {s : Stt} {Q : PV → Prop} {a b : Int}
theorem x_add (h : Q (.int (a + b))) : ∃ w, pAdd s (.int a) (.int b) = some w ∧ Q w := ⟨_, rfl, h⟩
theorem x_sub (h : Q (.int (a - b))) : ∃ w, pSub s (.int a) (.int b) = some w ∧ Q w := ⟨_, rfl, h⟩
theorem x_lt (h : Q (.bl (decide (a < b)))) : ∃ w, pLt s (.int a) (.int b) = some w ∧ Q w := ⟨_, rfl, h⟩
theorem x_le (h : Q (.bl (decide (a ≤ b)))) : ∃ w, pLe s (.int a) (.int b) = some w ∧ Q w := ⟨_, rfl, h⟩
theorem x_gt (h : Q (.bl (decide (b < a)))) : ∃ w, pGt s (.int a) (.int b) = some w ∧ Q w := ⟨_, rfl, h⟩
theorem x_ge (h : Q (.bl (decide (b ≤ a)))) : ∃ w, pGe s (.int a) (.int b) = some w ∧ Q w := ⟨_, rfl, h⟩
theorem pMul_int (hc : okMul a b = true) : pMul s (.int a) (.int b) = some (.int (a * b)) := by
  show (if okMul a b = true then some (PV.int (a * b)) else none).or _ = _
  rw [if_pos hc]
  rfl
theorem x_mul (hc : okMul a b = true) (h : Q (.int (a * b))) : ∃ w, pMul s (.int a) (.int b) = some w ∧ Q w := ⟨_, pMul_int hc, h⟩
theorem okMul_l (h : -18446744073709551616 < a ∧ a < 18446744073709551616) : okMul a b = true := by
  unfold okMul
  simp [h.1, h.2]
theorem okMul_r (h : -18446744073709551616 < b ∧ b < 18446744073709551616) : okMul a b = true := by
  unfold okMul
  simp [h.1, h.2]
theorem x_div (h0 : 0 < b) (h1 : b < 1000000000000000000000) (h : Q (.int (a / b))) : ∃ w, pDiv s (.int a) (.int b) = some w ∧ Q w := by
  refine ⟨_, ?_, h⟩
  show (if okDiv b = true then _ else _) = _
  rw [if_pos]
  unfold okDiv
  simp [h0, h1]
theorem x_mod (h0 : 0 < b) (h : Q (.int (a % b))) : ∃ w, pMod s (.int a) (.int b) = some w ∧ Q w := by
  refine ⟨_, ?_, h⟩
  show (if decide (0 < b) = true then _ else _) = _
  rw [if_pos (decide_eq_true h0)]
theorem x_pow (hc : okPow a b = true) (h : Q (.int (a ^ b.toNat))) : ∃ w, pPow s (.int a) (.int b) = some w ∧ Q w := by
  refine ⟨_, ?_, h⟩
  show (if okPow a b = true then _ else _) = _
  rw [if_pos hc]
theorem eqv_int : eqv (.int a) (.int b) = decide (a = b) := by
  unfold eqv PV.toD PyData.eqv
  exact Bool.eq_iff_iff.mpr (by simp)
theorem x_eq (h : Q (.bl (decide (a = b)))) : ∃ w, pEq s (.int a) (.int b) = some w ∧ Q w := ⟨_, rfl, by
  show Q (.bl (eqv (.int a) (.int b)))
  rw [eqv_int]
  exact h⟩
theorem x_ne (h : Q (.bl (!decide (a = b)))) : ∃ w, pNe s (.int a) (.int b) = some w ∧ Q w := ⟨_, rfl, by
  show Q (.bl (!eqv (.int a) (.int b)))
  rw [eqv_int]
  exact h⟩
theorem x_chain {k : Bool} {o : Option PV} {A : Bool → Prop} (hf : o = some (.bl k)) (h : A k) : ∃ k, o = some (.bl k) ∧ A k := ⟨k, hf, h⟩
theorem x_neg (h : Q (.int (-a))) : ∃ w, pNeg (.int a) = some w ∧ Q w := ⟨_, rfl, h⟩
theorem x_bl {k : Bool} {Q : Bool → Prop} (h : Q k) : ∃ b, asB (.bl k) = some b ∧ Q b := ⟨_, rfl, h⟩
theorem x_truB {k : Bool} {Q : Bool → Prop} (h : Q k) : ∃ b, tru s (.bl k) = some b ∧ Q b := ⟨_, rfl, h⟩
end
theorem wp_sq {K : Env → Stt → Prop} {Q : Pq Flw} {e : Env} {s : Stt} (h : K e s) : SQ K Q .next e s := h
theorem wp_sqr {K : Env → Stt → Prop} {Q : Pq Flw} {p : PV} {e : Env} {s : Stt} (h : Q (.ret p) e s) : SQ K Q (.ret p) e s := h
theorem wp_lq {I : Env → Stt → Prop} {Q : Pq Flw} {e : Env} {s : Stt} (h : I e s) : LQ I Q .next e s := h
theorem wp_lqr {I : Env → Stt → Prop} {Q : Pq Flw} {p : PV} {e : Env} {s : Stt} (h : Q (.ret p) e s) : LQ I Q (.ret p) e s := h
theorem wp_fqn {Q : PV → Stt → Prop} {e : Env} {s : Stt} (h : Q .non s) : FQ Q .next e s := h
theorem wp_fqr {Q : PV → Stt → Prop} {p : PV} {e : Env} {s : Stt} (h : Q p s) : FQ Q (.ret p) e s := h
theorem x_spl {k : Bool} {A B : Prop} (h1 : k = true → A) (h2 : k = false → B) : (k = true → A) ∧ (k = false → B) := ⟨h1, h2⟩
theorem x_ix {s : Stt} {p q w : PV} {Q : PV → Prop} (hf : pIx s p q = some w) (h : Q w) : ∃ w, pIx s p q = some w ∧ Q w := ⟨w, hf, h⟩
theorem x_len {s : Stt} {p : List PV} {w : PV} {Q : PV → Prop} (hf : fLen s p = some w) (h : Q w) : ∃ w, fLen s p = some w ∧ Q w := ⟨w, hf, h⟩
theorem x_int {s : Stt} {p : List PV} {w : PV} {Q : PV → Prop} (hf : fInt s p = some w) (h : Q w) : ∃ w, fInt s p = some w ∧ Q w := ⟨w, hf, h⟩
theorem x_isi {s : Stt} {p : List PV} {w : PV} {Q : PV → Prop} (hf : fIsi s p = some w) (h : Q w) : ∃ w, fIsi s p = some w ∧ Q w := ⟨w, hf, h⟩
theorem x_pcut {s : Stt} {p w : PV} {a b : Option Int} {Q : PV → Prop} (hf : pCut s p a b = some w) (h : Q w) : ∃ w, pCut s p a b = some w ∧ Q w := ⟨w, hf, h⟩
theorem x_itm {s : Stt} {p : PV} {w : List PV} {Q : List PV → Prop} (hf : itemsOf s p = some w) (h : Q w) : ∃ w, itemsOf s p = some w ∧ Q w := ⟨w, hf, h⟩
theorem x_itF {p : PV} {w : List PV} {Q : List PV → Prop} (hf : itemsF p = some w) (h : Q w) : ∃ w, itemsF p = some w ∧ Q w := ⟨w, hf, h⟩
theorem x_low {n : Nat} {A : Prop} (hf : Nat.ble n sizeLine = true) (h : A) : n ≤ sizeLine ∧ A := ⟨Nat.le_of_ble_eq_true hf, h⟩
theorem x_num {n m : Nat} {A : Prop} (hf : n = m) (h : A) : n = m ∧ A := ⟨hf, h⟩
theorem x_mR {p : PV} {n : Nat} {ys : List PV} {s : Stt} {A : Nat → List PV → Prop} (h1 : p = .ref n) (h2 : s[n]? = some (.lst ys)) (h : A n ys) : ∃ n ys, p = .ref n ∧ s[n]? = some (.lst ys) ∧ A n ys := ⟨n, ys, h1, h2, h⟩
theorem x_mf {n : Nat} {s : Stt} {mf : List PV → List PV → Option (PV × List PV)} {ps xs xs' : List PV} {w : PV} {A : List PV → PV → List PV → Prop} (h1 : s[n]? = some (.lst xs)) (h2 : mf xs ps = some (w, xs')) (h : A xs w xs') : ∃ xs w xs', s[n]? = some (.lst xs) ∧ mf xs ps = some (w, xs') ∧ A xs w xs' := ⟨xs, w, xs', h1, h2, h⟩
theorem x_mfO {n : Nat} {e : Env} {mf : List PV → List PV → Option (PV × List PV)} {ps xs xs' : List PV} {w : PV} {A : List PV → PV → List PV → Prop} (h1 : e[n]? = some (.own xs)) (h2 : mf xs ps = some (w, xs')) (h : A xs w xs') : ∃ xs w xs', e[n]? = some (.own xs) ∧ mf xs ps = some (w, xs') ∧ A xs w xs' := ⟨xs, w, xs', h1, h2, h⟩
theorem ixN_zero {n : Nat} (h : 0 < n) : ixN n 0 = some 0 := by
  unfold ixN
  rw [if_pos (by omega), if_pos (by omega)]
  rfl
theorem ixN_nat {n i : Nat} (h : i < n) : ixN n (i : Int) = some i := by
  unfold ixN
  rw [if_pos (by omega), if_pos (by omega)]
  simp
theorem atI_nat {α : Type} {xs : List α} {i : Nat} {x : α} (h : xs[i]? = some x) : atI xs (i : Int) = some x := by
  unfold atI
  rw [ixN_nat (by
    by_cases q : i < xs.length
    · exact q
    · rw [List.getElem?_eq_none (by omega)] at h
      cases h)]
  exact h
theorem atI_zero {α : Type} {x : α} {xs : List α} : atI (x :: xs) 0 = some x := atI_nat (i := 0) rfl
theorem pop0 {x : PV} {xs : List PV} : mPopAt (x :: xs) [.int 0] = some (x, xs) := by
  unfold mPopAt
  simp only []
  rw [if_pos (by decide), ixN_zero (by simp)]
  rfl
theorem pEq_v {s : Stt} {p q : PV} {b : Bool} (hp : okd 60 (res s p) = true) (hq : okd 60 (res s q) = true) (sp : seen s p = true) (sq : seen s q = true) (e : eqv (res s p) (res s q) = b) : pEq s p q = some (.bl b) := by
  unfold pEq
  rw [hp, hq, sp, sq, e]
  rfl
theorem pNe_v {s : Stt} {p q : PV} {b : Bool} (hp : okd 60 (res s p) = true) (hq : okd 60 (res s q) = true) (sp : seen s p = true) (sq : seen s q = true) (e : eqv (res s p) (res s q) = b) : pNe s p q = some (.bl (!b)) := by
  unfold pNe
  rw [hp, hq, sp, sq, e]
  rfl
theorem x_setR {p k : PV} {n : Nat} {xs : List PV} {j : Int} {m : Nat} {s : Stt} {A : Nat → List PV → Nat → Prop} (h1 : p = .ref n) (h2 : k = .int j) (h3 : s[n]? = some (.lst xs)) (h4 : ixN xs.length j = some m) (h : A n xs m) :
    ∃ n xs j m, p = .ref n ∧ k = .int j ∧ s[n]? = some (.lst xs) ∧ ixN xs.length j = some m ∧ A n xs m := ⟨n, xs, j, m, h1, h2, h3, h4, h⟩
theorem x_part {p : PV} {i : Int} {Q : Int → Prop} (h1 : p = .int i) (h : Q i) : ∃ i, p = .int i ∧ Q i := ⟨i, h1, h⟩
theorem x_par {ps : List PV} {p q : PV} {A : PV → PV → Prop} (h1 : ps = [p, q]) (h : A p q) : ∃ p q, ps = [p, q] ∧ A p q := ⟨p, q, h1, h⟩
theorem x_rng1 {j : Int} {Q : List PV → Prop} (h0 : -1073741824 < j) (h1 : j < 1073741824) (h : Q ((List.range j.toNat).map fun (i : Nat) => PV.int i)) : ∃ xs, rng1 [.int j] = some xs ∧ Q xs := by
  refine ⟨_, ?_, h⟩
  show (if okR j = true then _ else _) = _
  rw [if_pos]
  unfold okR
  simp [h0, h1]
theorem x_rng2 {i j : Int} {Q : List PV → Prop} (h0 : -1073741824 < i) (h1 : i < 1073741824) (h2 : -1073741824 < j) (h3 : j < 1073741824) (h : Q ((List.range (j - i).toNat).map fun (k : Nat) => PV.int (i + k))) : ∃ xs, rng2 [.int i, .int j] = some xs ∧ Q xs := by
  refine ⟨_, ?_, h⟩
  show (if (okR i && okR j) = true then _ else _) = _
  rw [if_pos]
  unfold okR
  simp [h0, h1, h2, h3]
theorem rng_get (n : Nat) (f : Nat → PV) (i : Nat) (p : PV) : ((List.range n).map f)[i]? = some p → i < n ∧ p = f i := fun h => by
  rw [List.getElem?_map] at h
  by_cases hi : i < n
  · rw [List.getElem?_range hi] at h
    exact ⟨hi, (Option.some.inj h).symm⟩
  · rw [List.getElem?_eq_none (by simpa using hi)] at h
    cases h
/-- the script's ints as values -/
theorem toDs_ints (ns : List Int) : (ns.map PV.int).all (okd 59) = true := by
  rw [List.all_map]
  exact List.all_eq_true.mpr fun _ _ => rfl
theorem okd_ints (ns : List Int) : okd 60 (.lst (ns.map PV.int)) = true := toDs_ints ns
theorem eqv_nil (ns : List Int) : eqv (.lst (ns.map PV.int)) (.lst []) = ns.isEmpty := by
  cases ns with
  | nil => rfl
  | cons n ns => rfl
end FS
set_option Elab.async false
set_option linter.all false
set_option maxRecDepth 100000
/-! FsLam: lambdas without parameters handed to a def; defs that make them. -/
namespace FS
open PySem PySem.Spec L2
open LamX (TabS Tabs ExtN CodeO TabB GivesTo LamS lamCx lamEnv pe_lamcall tLam)
theorem Ent.mon {K : PySem.W.Frag} {G G' : Wd} {S : Stt} (e : Ent G G') (su : Sure G) (rs : RepS K G S) : Mon G G' :=
  ⟨e.pre, fun a h => ⟨e.fz a h, by
    obtain ⟨o, q, nt⟩ := su a h
    rw [q]
    exact e.keep a o q nt (fun hm => rs.nf a hm h)⟩⟩
/-! ### defs that want the tables -/
def spDT (K : PySem.W.Frag) (mg : Str → Option Value) (T : List (Addr × Str)) (n : Nat) (den : List PV → Stt → Res) : Sp := fun vs H Q E =>
  ∃ G ps S, G.H = H ∧ (G.T = T ∧ Tabs T G.H) ∧ RepL K G ps vs ∧ RepS K G S ∧ Sure G ∧ vs.length = n ∧ PostD K mg G Q E (den ps S)
section
variable {P : Program} {w : World} {K : PySem.W.Frag} {mg : Str → Option Value} {base : Heap} {T : List (Addr × Str)}
structure DfT (P : Program) (w : World) (K : PySem.W.Frag) (mg : Str → Option Value) (base : Heap) (T : List (Addr × Str)) (k : Nat) (x : Str) (n : Nat) (den : List PV → Stt → Res) : Prop where
  ex : ∃ (f : Addr) (fd : FuncData) (ps : List Str), FnOk P w K mg base (L2.CX P w) k f fd ps (spDT K mg T n den) ∧ mg x = some (.ref f) ∧ PySem.W.keepIn K (.ref f) = true ∧ Binds K fd ps []
end
/-! ### what is handed over -/
/-! ### the end of a law with tables -/
end FS
set_option Elab.async false
set_option linter.all false
set_option maxRecDepth 100000
/-! FsPar3: a, b, c = x, y, z. -/
namespace FS
open PySem PySem.Spec L2
section
variable {X : Cx} {z : Zx} {pos p : Pos}
def dPar3 (i j l : Nat) (d : Cd (List PV)) : Cd Flw := bnd d fun ps => match ps with
  | [p, q, r] => fun e s => .ok .next (((e.set i (.val p)).set j (.val q)).set l (.val r)) s
  | _ => fun _ _ => .bad
end
end FS
set_option Elab.async false
set_option linter.all false
set_option maxRecDepth 100000
/-! FsRep: tuple * int, any number of times. -/
namespace FS
open PySem PySem.Spec L2 PySem.W
theorem tuple_mul_same (l : Addr) (items : Array Value) (n : Nat) (dd : Option Addr) (sl : Array (Option Value)) (x : Int) (u : Tok) (c0 : (decide (x < -2 ^ 63) || decide (x ≥ 2 ^ 63)) = false) (c1 : (items.isEmpty || x == 1) = true) :
    Meets (Builtin.«tuple.__mul__» { pos := [Value.ref l, Value.int x u] }) fun _ R s =>
      s.heap.get? l = some { cls := Value.type "tuple", dict := dd, data := Data.seq items n, slots := sl } ∧ R (Except.ok (Flow.ret (Value.ref l))) s := by
  refine Meets.of_wp fun prog w A R s h => ?_
  obtain ⟨hl, h⟩ := h
  have d0 : decide ((decide (x < -2 ^ 63) || decide (x ≥ 2 ^ 63)) = true) = false := by rw [c0]; rfl
  have d1 : decide ((items.isEmpty || x == 1) = true) = true := by rw [c1]; rfl
  refine wpAny_ite_false d0 (wpAny_bind (wpAny_bind (wpAny_bind (wpAny_load' hl (wpAny_pure (wpAny_pure (wpAny_ite_true d1 (wpAny_bind ?_))))))))
  refine wpAny_bind (wpAny_typeOf_ref hl (wpAny_pure ?_))
  refine wpAny_ite_true rfl (wpAny_bind (wpAny_rule ?_))
  exact wpAny_pure ⟨_, rfl, h⟩
theorem tuple_mul_none (l : Addr) (items : Array Value) (n : Nat) (dd : Option Addr) (sl : Array (Option Value)) (x : Int) (u : Tok) (c0 : (decide (x < -2 ^ 63) || decide (x ≥ 2 ^ 63)) = false) (c1 : (items.isEmpty || x == 1) = false) (c2 : (decide (x ≤ 0) || items.isEmpty) = true) :
    Meets (Builtin.«tuple.__mul__» { pos := [Value.ref l, Value.int x u] }) fun _ R s =>
      s.heap.get? l = some { cls := Value.type "tuple", dict := dd, data := Data.seq items n, slots := sl } ∧ R (Except.ok (Flow.ret (Value.ref s.heap.objs.size))) { s with heap := s.heap.push { cls := Value.type "tuple", data := Data.seq #[] } } := by
  refine Meets.of_wp fun prog w A R s h => ?_
  obtain ⟨hp, g, d, tk, os⟩ := s
  obtain ⟨hl, h⟩ := h
  have d0 : decide ((decide (x < -2 ^ 63) || decide (x ≥ 2 ^ 63)) = true) = false := by rw [c0]; rfl
  have d1 : decide ((items.isEmpty || x == 1) = true) = false := by rw [c1]; rfl
  have d2 : decide ((decide (x ≤ 0) || items.isEmpty) = true) = true := by rw [c2]; rfl
  refine wpAny_ite_false d0 (wpAny_bind (wpAny_bind (wpAny_bind (wpAny_load' hl (wpAny_pure (wpAny_pure (wpAny_ite_false d1 (wpAny_ite_true d2 (wpAny_bind ?_)))))))))
  unfold Builtin.Tuple.tupleExact newObj
  simp only []
  refine wpAny_bind (wpAny_alloc' ?_)
  refine wpAny_pure ?_
  refine wpAny_pure ?_
  exact ⟨_, rfl, h⟩
/-- a tuple several times: once is the tuple itself -/
def rRepA (K : PySem.W.Frag) : R2 := fun x y H Q => ∃ (l : Addr) (k : Int) (xs : List V), x = .ref l ∧ y = .int k ∧ SqT K H l xs ∧ xs ≠ [] ∧ -1048576 < k ∧ k < 1048576 ∧ xs.length * k.toNat ≤ sizeLine ∧ xs.length ≤ sizeLine ∧
  (k = 1 → Q (.ref l) H) ∧ (k ≠ 1 → ∀ p o, H p = none → o.dict = none → Q (.ref p) (upd H p (.frz o (.tup (List.replicate k.toNat xs).flatten))))
theorem op_repA {X : Cx} : OpR X (binaryOp .Mult) (rRepA X.K) := by
  intro pins s σ H x y v u Q I rx ry ⟨l, k, xs, ex, ey, hT, hne, h1, h2, hz, hz0, qs, qn⟩
  subst ex ey
  obtain rfl : v = Value.ref l := rx
  obtain ⟨t, rfl⟩ := ry
  obtain ⟨its, r, ⟨w, ho, hc, n, hd⟩, hs⟩ := I.tuple hT
  obtain ⟨cls, dd, data, sl⟩ := w
  simp only at hc hd
  subst hc hd
  have hle : its.length = xs.length := r.length.symm
  have hi : its.toArray.isEmpty = false := by
    cases its with
    | nil => exact absurd (List.length_eq_zero_iff.mp hle.symm) hne
    | cons a b => rfl
  have c0 : (decide (k < -2 ^ 63) || decide (k ≥ 2 ^ 63)) = false := by
    rw [decide_eq_false (by omega), decide_eq_false (by omega)]
    rfl
  have hT' : s.TypeIs (.ref l) "tuple" := ⟨_, ho, rfl⟩
  refine wpAny_binaryOp_repeat_ref (by decide) hT' (fun s' => typeIs_int s' k t) noFill_tuple_mul F.fills_int_mul F.slot_int_rmul repeat_tuple F.slot_int_index.lookup ?_
  refine call_meets F.slot_int_rmul (typeIs_int s k t) F.entry_int_rmul (F.args_int_rmul_2 (.int k t) (.ref l)) (int_rmul_tuple k t l its.toArray n dd sl) ⟨ho, rfl, hT', ?_⟩
  by_cases hk : k = 1
  · subst hk
    refine call_meets F.slot_tuple_mul hT' F.entry_tuple_mul (F.args_tuple_mul_2 (.ref l) (.int 1 t)) (tuple_mul_same l its.toArray n dd sl 1 t c0 (by rw [hi]; rfl)) ⟨ho, ?_⟩
    exact ⟨.ref l, H, I, rfl, qs rfl⟩
  · have c1 : (its.toArray.isEmpty || k == 1) = false := by rw [hi, Bool.false_or]; exact beq_eq_false_iff_ne.mpr hk
    have q := fun o ho => qn hk s.heap.objs.size o (I.hok.fresh (Nat.le_refl _)) ho
    by_cases h0 : k ≤ 0
    · have e0 : (List.replicate k.toNat xs).flatten = [] := by
        rw [Int.toNat_of_nonpos h0]
        rfl
      rw [e0] at q
      refine call_meets F.slot_tuple_mul hT' F.entry_tuple_mul (F.args_tuple_mul_2 (.ref l) (.int k t)) (tuple_mul_none l its.toArray n dd sl k t c0 c1 (by rw [decide_eq_true h0]; rfl)) ⟨ho, ?_⟩
      exact ⟨.ref s.heap.objs.size, upd H s.heap.objs.size (.frz _ (.tup [])), I.laid (fun b ob q => Heap.get?_push_of_some _ q) (Nat.le_refl _) (objN (its := []) (Nat.zero_le _) .nil (Heap.get?_push_size _ rfl) rfl ⟨_, rfl⟩), rfl, q _ rfl⟩
    · have c2 : (decide (k ≤ 0) || its.toArray.isEmpty) = false := by rw [hi, decide_eq_false h0]; rfl
      have fl : (List.replicate k.toNat its).flatten.length ≤ sizeLine := by
        rw [PyProof.Rows.lm_len_rep_flat, hle, Nat.mul_comm]
        exact hz
      have kk : ((k.toNat : Nat) : Int) = k := Int.toNat_of_nonneg (by omega)
      have sz : (its.toArray.size : Int) * k = ((xs.length * k.toNat : Nat) : Int) := by
        rw [List.size_toArray, hle]
        push_cast
        rw [kk]
      have hsl : sizeLine = 16777216 := sizeLine_eq
      refine call_meets F.slot_tuple_mul hT' F.entry_tuple_mul (F.args_tuple_mul_2 (.ref l) (.int k t)) (tuple_mulW l its.toArray n dd sl k t c0 c1 c2 (by rw [sz]; omega) (by unfold Builtin.Tuple.tupleTooMany; rw [sz]; exact decide_eq_false (by omega)) (by rw [size_rep, List.size_toArray]; exact fl)) ⟨ho, ?_⟩
      rw [size_rep]
      exact ⟨.ref s.heap.objs.size, upd H s.heap.objs.size (.frz _ (.tup (List.replicate k.toNat xs).flatten)), I.laid (fun b ob q => Heap.get?_push_of_some _ q) (Nat.le_refl _) (objN (by rw [PyProof.Rows.lm_len_rep_flat, Nat.mul_comm]; exact hz) (r.rep k.toNat) (Heap.get?_push_size _ rfl) rfl ⟨_, rfl⟩), rfl, q _ rfl⟩
/-- tuple * int, any number of times -/
def pMulT : Stt → PV → PV → Option PV := fun _ p q => match p, q with
  | .tup xs, .int k => if xs ≠ [] ∧ k < 1048576 ∧ -1048576 < k ∧ xs.length * k.toNat ≤ sizeLine ∧ xs.length ≤ sizeLine then some (.tup (List.replicate k.toNat xs).flatten) else none
  | _, _ => none
section
variable {X : Cx} {z : Zx}
theorem op_pMulT (hK : z.K = X.K := by rfl) : OpD X z (binaryOp .Mult) pMulT := by
  refine ⟨_, op_repA, fun G S p q w x y Q e s su rp rq h => ?_⟩
  rw [← hK]
  cases p with
  | tup xs =>
    cases q with
    | int k =>
      cases rq
      have rp2 := rp
      obtain ⟨a, vs, rfl, q, rr⟩ := rp.sqT
      have e' : (if xs ≠ [] ∧ k < 1048576 ∧ -1048576 < k ∧ xs.length * k.toNat ≤ sizeLine ∧ xs.length ≤ sizeLine then some (PV.tup (List.replicate k.toNat xs).flatten) else none) = some w := e
      by_cases hc : xs ≠ [] ∧ k < 1048576 ∧ -1048576 < k ∧ xs.length * k.toNat ≤ sizeLine ∧ xs.length ≤ sizeLine
      · rw [if_pos hc] at e'
        cases e'
        obtain ⟨h1, h2, h3, h4, h5⟩ := hc
        have hl := rr.length
        refine ⟨a, k, vs, rfl, rfl, q, fun z => ?_, h3, h2, by rw [← hl]; exact h4, by rw [← hl]; exact h5, fun hk => ?_, fun hk p o hn ho => ?_⟩
        · rw [z] at hl
          exact h1 (List.length_eq_zero_iff.mp hl)
        · subst hk
          have e1 : (List.replicate (1 : Int).toNat xs).flatten = xs := by
            show (List.replicate 1 xs).flatten = xs
            simp
          exact h (.ref a) G (Ext.refl G) su (by rw [e1]; exact rp2)
        · have M := (Ext.frozen (o := .frz o (.tup (List.replicate k.toNat vs).flatten)) hn).mon su
          exact h (.ref p) (G.frozen p (.frz o (.tup (List.replicate k.toNat vs).flatten))) (Ext.frozen hn) (sure_frozen su hn) (.tup (.inl ⟨.inr rfl, o, ho, upd_same⟩) ((rr.rep k.toNat).mon M))
      · rw [if_neg hc] at e'
        cases e'
    | _ => cases e
  | _ => cases e
def pMulA (S : Stt) (p q : PV) : Option PV := (pMul S p q).or (pMulT S p q)
theorem op_pMulA (hK : z.K = X.K := by rfl) : OpD X z (binaryOp .Mult) pMulA := (op_pMul hK).or (op_pMulT hK)
end
end FS
set_option Elab.async false
set_option linter.all false
set_option maxRecDepth 100000
/-! FsSum: sum of a list or a tuple of ints; range with a step; a, b = new, e. -/
namespace FS
open PySem PySem.Spec L2 PyProof PyProof.Rows PySem.W
def rSumT (K : PySem.W.Frag) : List V → Hp → VK → Prop := fun vs H Q => ∃ (a : Addr) (ns : List Int), vs = [V.ref a] ∧ SqT K H a (ns.map V.int) ∧ Q (.int ns.sum) H
theorem cr_sumT {X : Cx} (hc : X.calm = true) : CallR X (.builtin "sum") (rSumT X.K) := by
  intro pins s σ H vs us Q I r ⟨a, ns, e, hs, q⟩
  subst e
  rw [Vals.ref1 r]
  obtain ⟨its, rv, ⟨w, ho, hcl, n, hd⟩, hz⟩ := I.tuple hs
  have hi := rv.ints
  obtain ⟨xs, e⟩ := AllInts.items (IntsAre.allInts hi)
  have hn : xs.toList.map (fun x => x.1) = ns := by
    rw [← nums_intItems xs, ← e]
    exact IntsAre.numsOf hi
  refine ktm_sumG (xs := xs) (I.ok.hd hc) ⟨w, ho, hcl, n, by rw [hd, e]⟩ fun h' tk t' hk => ?_
  refine ⟨.int ns.sum, H, I.kept hk, ⟨t', ?_⟩, q⟩
  rw [preSum_eq xs xs.size, hn, List.take_of_length_le]
  rw [← hn, List.length_map]
  exact Nat.le_of_eq (Array.length_toList)
def intsOf : List PV → Option (List Int)
  | [] => some []
  | .int n :: xs => (intsOf xs).map (n :: ·)
  | _ :: _ => none
theorem intsOf_rep {K : PySem.W.Frag} {G : Wd} : ∀ {xs : List PV} {vs : List V} {ns : List Int}, intsOf xs = some ns → RepL K G xs vs → vs = ns.map V.int
  | [], _, ns, e, r => by
    cases r
    cases e
    rfl
  | .int n :: xs, _, ns, e, r => by
    cases r with
    | cons r0 rr =>
      cases r0
      simp only [intsOf] at e
      cases q : intsOf xs with
      | none => rw [q] at e; cases e
      | some ms =>
        rw [q] at e
        cases e
        rw [intsOf_rep q rr]
        rfl
  | .non :: xs, _, ns, e, r => by cases e
  | .bl _ :: xs, _, ns, e, r => by cases e
  | .str _ :: xs, _, ns, e, r => by cases e
  | .tup _ :: xs, _, ns, e, r => by cases e
  | .lst _ :: xs, _, ns, e, r => by cases e
  | .scr _ :: xs, _, ns, e, r => by cases e
  | .ref _ :: xs, _, ns, e, r => by cases e
  | .raw _ :: xs, _, ns, e, r => by cases e
/-- sum of ints -/
def fSum (S : Stt) (ps : List PV) : Option PV := match ps with
  | [.tup xs] => (intsOf xs).map fun ns => .int ns.sum
  | [.lst xs] => (intsOf xs).map fun ns => .int ns.sum
  | _ => none
section
variable {X : Cx} {z : Zx} {pos p : Pos}
theorem c_sum (hc : X.calm = true := by rfl) (hK : z.K = X.K := by rfl) : CallD X z (.builtin "sum") fSum := by
  refine ⟨_, (cr_sum hc).or (cr_sumT hc), fun G S ps w vs Q h s su r k => ?_⟩
  rw [← hK]
  match ps, h with
  | [.tup xs], h =>
    obtain ⟨v, rfl, rp⟩ := repL1 r
    have h' : (intsOf xs).map (fun ns => PV.int ns.sum) = some w := h
    cases q : intsOf xs with
    | none => rw [q] at h'; cases h'
    | some ns =>
      rw [q] at h'
      cases h'
      obtain ⟨a, us, rfl, hq, rr⟩ := rp.sqT
      have e := intsOf_rep q rr
      subst e
      exact .inr ⟨a, ns, rfl, hq, k _ G (.refl G) su (.int _)⟩
  | [.lst xs], h =>
    obtain ⟨v, rfl, rp⟩ := repL1 r
    have h' : (intsOf xs).map (fun ns => PV.int ns.sum) = some w := h
    cases q : intsOf xs with
    | none => rw [q] at h'; cases h'
    | some ns =>
      rw [q] at h'
      cases h'
      obtain ⟨a, us, rfl, hq, rr⟩ := rp.sqL
      have e := intsOf_rep q rr
      subst e
      exact .inl ⟨a, ns, rfl, SqL.of hq, k _ G (.refl G) su (.int _)⟩
/-- range(i, j, -1) -/
def rng3 (ps : List PV) : Option (List PV) := match ps with
  | [.int i, .int j, .int c] => if (okR i && okR j && decide (c = -1)) = true then some ((List.range (i - j).toNat).map fun (k : Nat) => PV.int (i + k * -1)) else none
  | _ => none
def dRng3 (d : Cd (List PV)) : Cd (List PV) := bnd d fun ps => lift (rng3 ps)
/-! ### new lists side by side -/
/-- a new list, then a value that nothing is raised for: a, b = new, e -/
def dOwnSet (i j : Nat) (da : Cd (List PV)) (db : Cd PV) : Cd Flw := bnd da fun xs => fun e s => match db e s with
  | .ok q e s => .ok .next ((e.set i (.own xs)).set j (.val q)) s
  | _ => .bad
/-- a, b, c = e, new, [] -/
def dSetOwnNil (i j l : Nat) (da : Cd PV) (db : Cd (List PV)) : Cd Flw := bnd da fun p => bnd db fun xs => fun e s => .ok .next (((e.set i (.val p)).set j (.own xs)).set l (.own [])) s
variable {a b : Expr} {da : Cd PV} {k2 : Nat} {lpos px py pw pt pt2 : Pos} {kt : Nat}
end
end FS
set_option Elab.async false
set_option linter.all false
set_option maxRecDepth 100000
/-! FsNilC: a, b = e, [] of names that others see. -/
namespace FS
open PySem PySem.Spec L2 PyProof PyProof.Rows PySem.W
end FS
set_option Elab.async false
set_option linter.all false
set_option maxRecDepth 100000
/-! FsCompT: comprehensions that make lambdas: the tables are known within. -/
namespace FS
open PySem PySem.Spec L2
open LamX (TabS Tabs CodeO)
end FS
set_option Elab.async false
set_option linter.all false
set_option maxRecDepth 100000
/-! FsCompS: comprehensions with tables, assigned. -/
namespace FS
open PySem PySem.Spec L2
open LamX (TabS Tabs CodeO)
end FS
set_option Elab.async false
set_option linter.all false
set_option maxRecDepth 100000
/-! FsCount: t.count(i), t a tuple of ints that has no dict. -/
namespace L2
open PySem PySem.Spec PyProof.Rows
def NdT (K : PySem.W.Frag) (H : Hp) (a : Addr) : Prop := (∃ (o : Obj) (vs : List V), o.dict = none ∧ H a = some (.frz o (.tup vs))) ∨ ∃ o, K.lookup a = some o ∧ o.dict = none
end L2
namespace FS
open PySem PySem.Spec L2
/-- t.count(i) -/
def dCount (da : Cd PV) (db : Cd (List PV)) : Cd PV := bnd da fun p => match p with
  | .tup xs => match intsOf xs with
    | some ns => bnd db fun q => match q with
      | [.int i] => ret (.int (ns.count i : Nat))
      | _ => fun _ _ => .bad
    | none => fun _ _ => .bad
  | _ => fun _ _ => .bad
section
variable {X : Cx} {z : Zx} {a b : Expr} {da : Cd PV} {db : Cd (List PV)} {apos cpos : Pos} {k : Nat}
theorem Td.nd {K : PySem.W.Frag} {G : Wd} {a : Addr} {vs : List V} (h : Td K G a vs) : NdT K G.H a := by
  rcases h with ⟨_, o, h1, h2⟩ | ⟨(h | ⟨o, h⟩) | ⟨o, _, _, h, _⟩, h2⟩
  · exact .inl ⟨o, vs, h1, h2⟩
  · cases h
  · cases h
  · exact .inr ⟨o, h, h2 o h⟩
end
end FS
set_option Elab.async false
set_option linter.all false
set_option maxRecDepth 100000
set_option maxHeartbeats 2000000
/-! FsGen: sum and all of a generator expression whose element reads only. -/
namespace FS
open PySem PySem.Spec PyProof.Rows L2
open LamX (TabS Tabs ExtN CodeO TabB inv_table among_app)
open GxR (GenS)
/-! ### a new code object in a table -/
/-! ### the element's frame -/
structure GEnv (X : Cx) (scope : Scope) (x : Str) (σ : L2.St) (H : Hp) (u : Value) (cenv : PySem.Env) (s : Shared) (m : Str → Option Value) : Prop where
  sc : cenv.scope = scope
  gl : cenv.globals = mainGlobals
  bl : cenv.builtins = builtinsNs
  ns : s.heap.Ns cenv.locals m
  it : m x = some u
  hok : HOk X.prog X.w H s.heap
  bk : ∀ b o, X.base.get? b = some o → s.heap.get? b = some o
  mod : Mod X.K X.mg X.base
  cap : ∀ (i : Nat) (y : Str) (w : V), X.N[i]? = some y → σ[i]? = some (some w) → scope.names.lookup y = some .free → ∃ v c, RelV w v ∧ cenv.cells.lookup y = some c ∧ s.heap.IsCell c (some v)
theorem GEnv.later {X : Cx} {scope : Scope} {x : Str} {σ : L2.St} {H : Hp} {u : Value} {cenv : PySem.Env} {s s' : Shared} {m : Str → Option Value} (g : GEnv X scope x σ H u cenv s m) (k : Keeps s s') : GEnv X scope x σ H u cenv s' m := by
  obtain ⟨h', tk, rfl, kp⟩ := k
  refine ⟨g.sc, g.gl, g.bl, g.ns.keeps kp, g.it, g.hok.kept kp, fun b o e => kp b o (g.bk b o e), g.mod, fun i y w h1 h2 h3 => ?_⟩
  obtain ⟨v, c, r, e, o, ho, hd⟩ := g.cap i y w h1 h2 h3
  exact ⟨v, c, r, e, o, kp _ _ ho, hd⟩
section
variable {X : Cx} {scope : Scope} {x : Str} {pos p1 p2 p3 : Pos}
/-- the generator expression's own names -/
structure GS (sc scope : Scope) (x : Str) : Prop where
  kind : scope.kind = .function
  co : scope.isCoroutine = false
  cell : ∀ y ∈ scope.names, y.2 ≠ .cell
  dot : scope.names.lookup (".0" : Str) = some NameKind.local
  loc : scope.names.lookup x = some .local
  free : ∀ y ∈ scope.names, y.2 = .free → sc.names.lookup y.1 = some .cell ∨ sc.names.lookup y.1 = some .free
theorem GS.gen {X : Cx} {scope : Scope} {x : Str} (S : GS X.env.scope scope x) (ok : X.Ok) : GenS X.env scope x := ⟨S.kind, S.co, S.cell, S.dot, S.loc, fun y hy e => by
  rcases S.free y hy e with k | k
  · exact ok.has _ (.inl k)
  · exact ok.has _ (.inr k)⟩
theorem GS.cells {X : Cx} {scope : Scope} {x : Str} (S : GS X.env.scope scope x) (ok : X.Ok) {y : Str} {c : Addr} (h : scope.names.lookup y = some .free) (hc : X.env.cells.lookup y = some c) : (cloFrom X.env.cells scope.names []).lookup y = some c := by
  have hfree := (S.gen ok).free
  have cm : ∀ {y c}, (cloFrom X.env.cells scope.names []).lookup y = some c → X.env.cells.lookup y = some c := fun {y c} e => by
    rcases cloFrom_mem (PySem.mem_of_lookup e) with hm | ⟨h1, h2⟩
    · cases hm
    · obtain ⟨c1, hc⟩ := hfree _ h1 rfl
      have hc : X.env.cells.lookup y = some c1 := hc
      have e2 : c = c1 := by
        rw [h2, hc] <;> rfl
      rw [e2]
      exact hc
  have hy : (y, NameKind.free) ∈ scope.names := PySem.mem_of_lookup h
  obtain ⟨c2, e2⟩ := mem_lookup (cloFrom_has (cells := X.env.cells) (acc := []) hy)
  rw [e2, ← hc, cm e2]
/-- what is walked: a new iterator over it tells the items -/
def SrcOk (X : Cx) (G1 : Wd) (v : V) (ps : List PV) : Prop := ∀ (pins : List (Addr × Obj)) (σ : L2.St) (s1 : Shared) (u : Value), Inv X pins σ G1.H s1 → L2.RelV v u →
  ∃ (o : Obj) (fp : List Addr) (Pf : Nat → Value → Prop) (St : Nat → Heap → Prop),
    (∀ (Q : Value → Shared → Prop) (E : Value → Shared → Prop), Q (.ref s1.heap.objs.size) { s1 with heap := s1.heap.push o } → wpAny (model X.prog X.w) X.A (pyIter u) Q E s1) ∧
    (∀ A' : Around, A'.handled = none → Walks X.prog X.w A' s1.heap.objs.size fp [s1.heap.objs.size] ps.length Pf St) ∧ St 0 (s1.heap.push o) ∧
    (∀ b ∈ fp, b < s1.heap.objs.size + 1 ∧ ∀ ts, G1.H b ≠ some (.tbl ts)) ∧ (∀ i y, Pf i y → ∃ (p : PV) (w : V), ps[i]? = some p ∧ L2.RelV w y ∧ Rep X.K G1 p w)
theorem inv_gens {pins : List (Addr × Obj)} {σ : L2.St} {H : Hp} {h : Heap} {g g' : Array GenState} {d d' : Drawn} {t : Nat} {os : _} (J : Inv X pins σ H ⟨h, g, d, t, os⟩) (hg : AllBare g') : Inv X pins σ H ⟨h, g', d', t, os⟩ :=
  ⟨J.ok, J.os, hg, J.base, J.loc, J.cell, J.free, J.freeC, J.pin, J.hok, J.len⟩
end
end FS
set_option Elab.async false
set_option linter.all false
set_option maxRecDepth 100000
set_option maxHeartbeats 2000000
/-! FsGen2: what a generator expression walks; sum, all. -/
namespace FS
open PySem PySem.Spec PyProof.Rows L2
open LamX (TabS Tabs ExtN CodeO TabB)
section
variable {X : Cx} {z : Zx} {pos p1 p2 p3 : Pos}
/-! ### the source's denotation -/
def PostR (X : Cx) (z : Zx) (G : Wd) (σ : L2.St) (Q : VK) : Out (List PV) → Prop
  | .ok ps env S => ∀ (v : V) (G' : Wd), Mon G G' → At z.K z.G0 G' S env σ → SrcOk X G' v ps → Q v G'.H
  | .raise c w env S => ∀ σ', PRaise z G c w env S σ'
  | .bad => False
theorem PostR.later {G G1 : Wd} {σ : L2.St} {Q : VK} {o : Out (List PV)} (h : PostR X z G σ Q o) (M : Mon G G1) : PostR X z G1 σ Q o := by
  cases o with
  | ok p env S => exact fun v G' m a r => h v G' (M.trans m) a r
  | raise c w env S => exact fun σ' => (h σ').later M
  | bad => exact h
/-! ### sum, all -/
def qMap (q : Env → PV → Option PV) (env : Env) : List PV → Option (List PV)
  | [] => some []
  | p :: ps => match q env p, qMap q env ps with
    | some r, some rs => some (r :: rs)
    | _, _ => none
def blsOf : List PV → Option (List Bool)
  | [] => some []
  | .bl b :: xs => (blsOf xs).map (b :: ·)
  | _ :: _ => none
/-- small numbers, few of them -/
def few (ns : List Int) : Bool := ns.all (fun n => decide (0 ≤ n) && decide (n ≤ 1048576)) && decide (ns.length ≤ 1048576)
def dSumG (d : Cd (List PV)) (q : Env → PV → Option PV) : Cd PV := bnd d fun ps => fun e s => match (qMap q e ps).bind intsOf with
  | some ns => if few ns = true then .ok (.int ns.sum) e s else .bad
  | none => .bad
def dAllG (d : Cd (List PV)) (q : Env → PV → Option PV) : Cd PV := bnd d fun ps => fun e s => match (qMap q e ps).bind blsOf with
  | some bs => .ok (.bl (bs.all id)) e s
  | none => .bad
variable {T : List (Addr × Str)} {c P : Addr} {elt iter : Expr} {px gpos : Pos} {scope : Scope} {x : Str} {q : Env → PV → Option PV} {d : Cd (List PV)} {k : Nat}
end
end FS
set_option Elab.async false
set_option linter.all false
set_option maxRecDepth 100000
set_option maxHeartbeats 2000000
/-! FsGen3: min, max of a list or a tuple of ints; the same within generator expressions. -/
namespace FS
open PySem PySem.Spec PyProof PyProof.Rows L2
/-! ### the least, the greatest -/
end FS
set_option Elab.async false
set_option linter.all false
set_option maxRecDepth 100000
set_option maxHeartbeats 2000000
/-! FsGc1: generator expressions of two fors: made; their code's turns. -/
namespace FS
open PySem PySem.Spec PyProof.Rows L2
/-! ### the turns -/
end FS
set_option Elab.async false
set_option linter.all false
set_option maxRecDepth 100000
set_option maxHeartbeats 2000000
/-! FsGc2: the loops of a generator expression of two fors, from yield to yield. -/
namespace FS
open PySem PySem.Spec PyProof.Rows L2 GenW
/-- between a yield and the next turn: all is kept -/
structure Woke (s s' : Shared) : Prop where
  os : s'.os = s.os
  bare : AllBare s'.gens
  keep : ∀ b o, s.heap.get? b = some o → s'.heap.get? b = some o
theorem Woke.inv {X : Cx} {pins : List (Addr × Obj)} {σ : L2.St} {H : Hp} {s s' : Shared} (k : Woke s s') (I : Inv X pins σ H s) : Inv X pins σ H s' := by
  obtain ⟨h', g', d', t', o'⟩ := s'
  have e : o' = s.os := k.os
  subst e
  exact inv_gens (I.kept (t' := t') k.keep) k.bare
end FS
set_option Elab.async false
set_option linter.all false
set_option maxRecDepth 100000
set_option maxHeartbeats 2000000
/-! FsGc3: the generator's frame; all(..) draws it. -/
namespace FS
open PySem PySem.Spec PyProof.Rows L2 GenW
open LamX (TabS Tabs ExtN CodeO TabB inv_table among_app)
/-- the generator's own names: x0, x1; the others are captured ones and globals -/
structure GN (N : List Str) (sc scope : Scope) : Prop where
  kind : scope.kind = .function
  co : scope.isCoroutine = false
  cell : ∀ y ∈ scope.names, y.2 ≠ .cell
  dot : scope.names.lookup (".0" : Str) = some NameKind.local
  free : ∀ y ∈ scope.names, y.2 = .free → sc.names.lookup y.1 = some .cell ∨ sc.names.lookup y.1 = some .free
  loc : ∀ y ∈ scope.names, y.2 = .local → y.1 ∉ N
theorem GN.has {X : Cx} {scope : Scope} (S : GN X.N X.env.scope scope) (ok : X.Ok) : ∀ y ∈ scope.names, y.2 = .free → ∃ c, X.env.cells.lookup y.1 = some c := fun y hy e => by
  rcases S.free y hy e with k | k
  · exact ok.has _ (.inl k)
  · exact ok.has _ (.inr k)
end FS
set_option Elab.async false
set_option linter.all false
set_option maxRecDepth 100000
set_option maxHeartbeats 2000000
/-! FsGc4: all(.. for .. in .. for .. in ..). -/
namespace FS
open PySem PySem.Spec PyProof.Rows L2 GenW
open LamX (TabS Tabs ExtN CodeO TabB)
end FS
set_option Elab.async false
set_option linter.all false
set_option maxRecDepth 100000
set_option maxHeartbeats 2000000
/-! FsGc5: all(.. for .. in .. for .. in ..) as data. -/
namespace FS
open PySem PySem.Spec PyProof.Rows L2 GenW
open LamX (TabS Tabs ExtN CodeO TabB)
end FS
set_option Elab.async false
set_option linter.all false
set_option maxRecDepth 100000
set_option maxHeartbeats 2000000
/-! FsMet1: sorted({.. for .. in .. for .. in ..}), the machine's side. -/
namespace FS
open PySem PySem.Spec PyProof.Rows L2
end FS
set_option Elab.async false
set_option linter.all false
set_option maxRecDepth 100000
set_option maxHeartbeats 2000000
/-! FsMet2: sorted({x1 for x0 in e for x1 in x0}), rows of ints. -/
namespace FS
open PySem PySem.Spec PyProof.Rows L2
end FS
set_option Elab.async false
set_option linter.all false
set_option maxRecDepth 100000
set_option maxHeartbeats 2000000
/-! FsMet3: sorted({x1 for x0 in e for x1 in x0}) as data. -/
namespace FS
open PySem PySem.Spec PyProof.Rows L2
/-- a number put into a rising list -/
def insU (c : Int) : List Int → List Int
  | [] => [c]
  | x :: xs => if c < x then c :: x :: xs else if c = x then x :: xs else x :: insU c xs
theorem insU_mem {c k : Int} : ∀ {l : List Int}, k ∈ insU c l ↔ k = c ∨ k ∈ l
  | [] => by simp [insU]
  | x :: xs => by
    unfold insU
    by_cases h1 : c < x
    · rw [if_pos h1]; simp
    · rw [if_neg h1]
      by_cases h2 : c = x
      · rw [if_pos h2]; subst h2; simp
      · rw [if_neg h2, List.mem_cons, insU_mem, List.mem_cons]
        constructor
        · rintro (h | h | h)
          · exact .inr (.inl h)
          · exact .inl h
          · exact .inr (.inr h)
        · rintro (h | h | h)
          · exact .inr (.inl h)
          · exact .inl h
          · exact .inr (.inr h)
theorem insU_ris {c : Int} : ∀ {l : List Int}, l.Pairwise (· < ·) → (insU c l).Pairwise (· < ·)
  | [], _ => by simp [insU]
  | x :: xs, h => by
    obtain ⟨h1, h2⟩ := List.pairwise_cons.mp h
    unfold insU
    by_cases q1 : c < x
    · rw [if_pos q1]
      refine List.pairwise_cons.mpr ⟨fun y hy => ?_, h⟩
      rcases List.mem_cons.mp hy with e | hy
      · rw [e]; exact q1
      · have := h1 y hy; omega
    · rw [if_neg q1]
      by_cases q2 : c = x
      · rw [if_pos q2]; exact h
      · rw [if_neg q2]
        refine List.pairwise_cons.mpr ⟨fun y hy => ?_, insU_ris h2⟩
        rcases insU_mem.mp hy with e | hy
        · omega
        · exact h1 y hy
/-- the numbers of a list, rising, each once -/
def srtI (l : List Int) : List Int := l.foldl (fun acc c => insU c acc) []
theorem srtI_all (l : List Int) : (srtI l).Pairwise (· < ·) ∧ ∀ k, k ∈ srtI l ↔ k ∈ l := by
  suffices h : ∀ (l acc : List Int), acc.Pairwise (· < ·) → (l.foldl (fun acc c => insU c acc) acc).Pairwise (· < ·) ∧ ∀ k, k ∈ l.foldl (fun acc c => insU c acc) acc ↔ k ∈ l ∨ k ∈ acc by
    obtain ⟨h1, h2⟩ := h l [] List.Pairwise.nil
    exact ⟨h1, fun k => by rw [show srtI l = l.foldl (fun acc c => insU c acc) [] from rfl, h2]; simp⟩
  intro l
  induction l with
  | nil => exact fun acc h => ⟨h, fun k => by simp⟩
  | cons c l ih =>
    intro acc h
    obtain ⟨h1, h2⟩ := ih (insU c acc) (insU_ris h)
    refine ⟨h1, fun k => ?_⟩
    rw [List.foldl_cons, h2, insU_mem, List.mem_cons]
    constructor
    · rintro (h | h | h)
      · exact .inl (.inr h)
      · exact .inl (.inl h)
      · exact .inr h
    · rintro ((h | h) | h)
      · exact .inr (.inl h)
      · exact .inl h
      · exact .inr (.inr h)
theorem ris_uniq : ∀ {a b : List Int}, a.Pairwise (· < ·) → b.Pairwise (· < ·) → (∀ k, k ∈ a ↔ k ∈ b) → a = b
  | [], [], _, _, _ => rfl
  | [], y :: b, _, _, h => absurd ((h y).mpr List.mem_cons_self) (by simp)
  | x :: a, [], _, _, h => absurd ((h x).mp List.mem_cons_self) (by simp)
  | x :: a, y :: b, ha, hb, h => by
    obtain ⟨a1, a2⟩ := List.pairwise_cons.mp ha
    obtain ⟨b1, b2⟩ := List.pairwise_cons.mp hb
    have e : x = y := by
      have h1 := (h x).mp List.mem_cons_self
      have h2 := (h y).mpr List.mem_cons_self
      rcases List.mem_cons.mp h1 with e | h1
      · exact e
      · rcases List.mem_cons.mp h2 with e | h2
        · exact e.symm
        · have := b1 x h1
          have := a1 y h2
          omega
    subst e
    refine congrArg (x :: ·) (ris_uniq a2 b2 fun k => ?_)
    constructor
    · intro hk
      rcases List.mem_cons.mp ((h k).mp (List.mem_cons_of_mem _ hk)) with e | m
      · have := a1 k hk; omega
      · exact m
    · intro hk
      rcases List.mem_cons.mp ((h k).mpr (List.mem_cons_of_mem _ hk)) with e | m
      · have := b1 k hk; omega
      · exact m
def seqF : PV → Option (List PV)
  | .tup xs => some xs
  | .lst xs => some xs
  | _ => none
end FS
set_option Elab.async false
set_option linter.all false
set_option maxRecDepth 100000
set_option maxHeartbeats 2000000
/-! FsAug: max of a list of ints with a default; o[i] += e; a, b, c = (a new list), [], e. -/
namespace FS
open PySem PySem.Spec PyProof PyProof.Rows L2
/-! ### max(l, default=d) -/
section
variable {X : Cx} {z : Zx} {x : Str} {e e2 : Expr} {da db dv di : Cd PV} {p pos kpos p1 tpos : Pos}
/-! ### o[i] += e, o a list that its name alone holds -/
/-! ### a, b, c = (a new list), [], e -/
theorem Alone.later {G : Wd} {env : Env} {σ : L2.St} {a b : Addr} {vs : List V} {o : HO} (al : Alone z G env σ a vs) (hn : G.H b = none) : Alone z (G.fresh b o) env σ a vs := by
  have hb : a ≠ b := fun e => by
    have h := al.at_
    rw [e, hn] at h
    cases h
  exact ⟨(upd_ne hb).trans al.at_, al.nf, al.nm, al.n0, al.no⟩
end
end FS
set_option Elab.async false
set_option linter.all false
set_option maxRecDepth 100000
set_option maxHeartbeats 2000000
/-! FsUnl: a, b, .. = a list. -/
namespace FS
open PySem PySem.Spec PyProof.Rows L2
end FS
set_option Elab.async false
set_option linter.all false
set_option maxRecDepth 100000
set_option maxHeartbeats 2000000
/-! FsOwnIt: a comprehension over a list that its name alone holds. -/
namespace FS
open PySem PySem.Spec PyProof.Rows L2
end FS
set_option Elab.async false
set_option linter.all false
set_option maxRecDepth 100000
set_option maxHeartbeats 2000000
/-! FsRem: l.remove(x), x in l; a, b, c = (a new list), [], []. -/
namespace FS
open PySem PySem.Spec PyProof.Rows L2
end FS
set_option Elab.async false
set_option linter.all false
set_option maxRecDepth 100000
/-! FsForD: `for x in [f, g, h]` over defs, and calls of the name x; statements that no run reaches. -/
namespace FS
open PySem PySem.Spec L2
open LamX (Tabs)
/-- the def at an address -/
structure DfA (P : Program) (w : World) (K : PySem.W.Frag) (mg : Str → Option Value) (base : Heap) (k : Nat) (f : Addr) (n : Nat) (den : List PV → Stt → Res) : Prop where
  ex : ∃ (fd : FuncData) (ps : List Str), FnOk P w K mg base (L2.CX P w) k f fd ps (spD K mg n den) ∧ PySem.W.keepIn K (.ref f) = true ∧ Binds K fd ps []
structure DfTA (P : Program) (w : World) (K : PySem.W.Frag) (mg : Str → Option Value) (base : Heap) (T : List (Addr × Str)) (k : Nat) (f : Addr) (n : Nat) (den : List PV → Stt → Res) : Prop where
  ex : ∃ (fd : FuncData) (ps : List Str), FnOk P w K mg base (L2.CX P w) k f fd ps (spDT K mg T n den) ∧ PySem.W.keepIn K (.ref f) = true ∧ Binds K fd ps []
section
variable {P : Program} {w : World} {K : PySem.W.Frag} {mg : Str → Option Value} {base : Heap} {T : List (Addr × Str)} {k n : Nat} {x : Str} {den : List PV → Stt → Res}
theorem Df.at (D : Df P w K mg base k x n den) : ∃ f, mg x = some (.ref f) ∧ DfA P w K mg base k f n den := by
  obtain ⟨f, fd, ps, F, hm, hk, hb⟩ := D.ex
  exact ⟨f, hm, ⟨fd, ps, F, hk, hb⟩⟩
theorem DfT.at (D : DfT P w K mg base T k x n den) : ∃ f, mg x = some (.ref f) ∧ DfTA P w K mg base T k f n den := by
  obtain ⟨f, fd, ps, F, hm, hk, hb⟩ := D.ex
  exact ⟨f, hm, ⟨fd, ps, F, hk, hb⟩⟩
end
/-! ### the loop -/
end FS
set_option Elab.async false
set_option linter.all false
set_option maxRecDepth 100000
/-! FsWp2: rules for what FsOwn, FsEnum and FsZip add. -/
namespace FS
open PySem L2
section
variable {α β : Type} {e : Env} {s : Stt} {R : Pr} {Q : Pq PV} {QL : Pq (List PV)} {QS : Pq Flw} {i j : Nat}
theorem wp_lenO {xs : List PV} (h : e[i]? = some (.own xs)) (hq : Q (.int xs.length) e s) : Wp (dLenO i e s) Q R := by
  unfold dLenO
  rw [h]
  exact hq
theorem wp_lenV {p : PV} (h : e[i]? = some (.val p)) (hq : Wp (dFn fLen (dCons (dUse i) dNil) e s) Q R) : Wp (dLenO i e s) Q R := by
  unfold dLenO
  rw [h]
  exact hq
theorem wp_ixO {ys : List PV} {db : Cd PV} (h : e[i]? = some (.own ys)) (hq : Wp (db e s) (fun k e s => ∃ xs j w, e[i]? = some (.own xs) ∧ k = .int j ∧ atI xs j = some w ∧ Q w e s) R) : Wp (dIxO i db e s) Q R := by
  unfold dIxO
  simp only [h]
  refine wp_bnd (Wp.mono hq (fun k e1 s1 ⟨xs, j, w, h1, h2, h3, h4⟩ => ?_) fun _ _ _ _ h => h)
  subst h2
  simp only [h1, h3]
  exact h4
theorem wp_ixV {p : PV} {db : Cd PV} (h : e[i]? = some (.val p)) (hq : Wp (dOp pIx (dUse i) db e s) Q R) : Wp (dIxO i db e s) Q R := by
  unfold dIxO
  simp only [h]
  exact hq
theorem wp_inO {neg : Bool} {da : Cd PV} (hq : Wp (da e s) (fun p e s => (∃ xs w, e[i]? = some (.own xs) ∧ inL neg p xs = some w ∧ Q w e s) ∨ (∃ q w, e[i]? = some (.val q) ∧ (if neg then pNotInA s p q else pInA s p q) = some w ∧ Q w e s)) R) : Wp (dInO neg da i e s) Q R := by
  refine wp_bnd (Wp.mono hq (fun p e1 s1 h => ?_) fun _ _ _ _ h => h)
  rcases h with ⟨xs, w, h1, h2, h3⟩ | ⟨q, w, h1, h2, h3⟩
  · simp only [h1, h2]
    exact h3
  · simp only [h1, h2]
    exact h3
theorem wp_mulL {da db : Cd PV} (h : Wp (da e s) (fun p e s => Wp (db e s) (fun q e s => ∃ xs k, p = .lst xs ∧ q = .int k ∧ (k < 1048576 ∧ -1048576 < k ∧ xs.length * k.toNat ≤ sizeLine) ∧ QL (List.replicate k.toNat xs).flatten e s) R) R) : Wp (dMulL da db e s) QL R := by
  refine wp_bnd (Wp.mono h (fun p e1 s1 h1 => wp_bnd (Wp.mono h1 (fun q e2 s2 ⟨xs, k, h2, h3, h4, h5⟩ => ?_) fun _ _ _ _ h => h)) fun _ _ _ _ h => h)
  subst h2 h3
  simp only [if_pos h4]
  exact h5
theorem wp_catL {da db : Cd PV} (h : Wp (da e s) (fun p e s => Wp (db e s) (fun q e s => ∃ xs ys, p = .lst xs ∧ q = .lst ys ∧ xs.length + ys.length ≤ sizeLine ∧ QL (xs ++ ys) e s) R) R) : Wp (dCatL da db e s) QL R := by
  refine wp_bnd (Wp.mono h (fun p e1 s1 h1 => wp_bnd (Wp.mono h1 (fun q e2 s2 ⟨xs, k, h2, h3, h4, h5⟩ => ?_) fun _ _ _ _ h => h)) fun _ _ _ _ h => h)
  subst h2 h3
  simp only [if_pos h4]
  exact h5
theorem wp_cutL {d : Cd PV} {l h' : Cd (Option Int)} (h : Wp (d e s) (fun p e s => Wp (l e s) (fun l e s => Wp (h' e s) (fun u e s => ∃ xs, p = .lst xs ∧ QL (cutP xs l u) e s) R) R) R) : Wp (dCutL d l h' e s) QL R := by
  refine wp_bnd (Wp.mono h (fun p e1 s1 h1 => wp_bnd (Wp.mono h1 (fun l e2 s2 h2 => wp_bnd (Wp.mono h2 (fun u e3 s3 ⟨xs, h3, h4⟩ => ?_) fun _ _ _ _ h => h)) fun _ _ _ _ h => h)) fun _ _ _ _ h => h)
  subst h3
  exact h4
theorem wp_rngL {d : Cd (List PV)} (h : Wp (d e s) (fun ps e s => ∃ j, ps = [.int j] ∧ (okR j = true ∧ j ≤ 16777216) ∧ QL ((List.range j.toNat).map fun (i : Nat) => PV.int i) e s) R) : Wp (dRngL d e s) QL R := by
  refine wp_bnd (Wp.mono h (fun ps e1 s1 ⟨j, h1, h2, h3⟩ => ?_) fun _ _ _ _ h => h)
  subst h1
  simp only [if_pos h2]
  exact h3
theorem wp_ownNil {d : Cd (List PV)} (h : Wp (d e s) (fun xs e s => QS .next ((e.set i (.own xs)).set j (.own [])) s) R) : Wp (dOwnNil i j d e s) QS R := wp_bnd h
theorem wp_setNil {d : Cd PV} (h : Wp (d e s) (fun p e s => QS .next ((e.set i (.val p)).set j (.own [])) s) R) : Wp (dSetNil i j d e s) QS R := wp_bnd h
theorem wp_zipM {d : Cd (List PV)} {Q : Pq (List PV)} (h : Wp (d e s) (fun ps e s => ∃ xs, zipM ps = some xs ∧ Q xs e s) R) : Wp (dZipM d e s) Q R := wp_bnd (Wp.mono h (fun p e1 s1 ⟨xs, q, h1⟩ => wp_lift q h1) fun _ _ _ _ h => h)
theorem wp_enum {d : Cd (List PV)} {Q : Pq (List PV)} (h : Wp (d e s) (fun ps e s => ∃ xs, enumP ps = some xs ∧ Q xs e s) R) : Wp (dEnum d e s) Q R := wp_bnd (Wp.mono h (fun p e1 s1 ⟨xs, q, h1⟩ => wp_lift q h1) fun _ _ _ _ h => h)
theorem x_zipM {p q : PV} {xs ys : List PV} {Q : List PV → Prop} (h1 : itemsF p = some xs) (h2 : itemsF q = some ys) (h : Q ((xs.zip ys).map fun c => PV.tuz [c.1, c.2])) : ∃ zs, zipM [p, q] = some zs ∧ Q zs := ⟨_, by
  unfold zipM
  simp only [h1, h2], h⟩
theorem x_rev {xs : List PV} {Q : PV → Prop} (h : Q (.tup xs.reverse)) : ∃ w, pRev (.tup xs) = some w ∧ Q w := ⟨_, rfl, h⟩
theorem x_revL {xs : List PV} {Q : PV → Prop} (h : Q (.lst xs.reverse)) : ∃ w, pRev (.lst xs) = some w ∧ Q w := ⟨_, rfl, h⟩
end
/-- what a place holds -/
def LkS (o : Option Slot) (K1 : PV → Prop) (K2 : List PV → Prop) : Prop := (∃ p, o = some (.val p) ∧ K1 p) ∨ ∃ xs, o = some (.own xs) ∧ K2 xs
theorem lks_v {o : Option Slot} {K1 : PV → Prop} {K2 : List PV → Prop} {p : PV} (h : o = some (.val p)) (k : K1 p) : LkS o K1 K2 := .inl ⟨p, h, k⟩
theorem lks_o {o : Option Slot} {K1 : PV → Prop} {K2 : List PV → Prop} {xs : List PV} (h : o = some (.own xs)) (k : K2 xs) : LkS o K1 K2 := .inr ⟨xs, h, k⟩
section
variable {e : Env} {s : Stt} {R : Pr} {Q : Pq PV} {i : Nat}
theorem wp_useL (h : LkS e[i]? (fun p => Q p e s) (fun xs => Q (.lst xs) (e.set i (.val (.lst xs))) s)) : Wp (dUse i e s) Q R := by
  rcases h with ⟨p, h1, h2⟩ | ⟨xs, h1, h2⟩
  · exact wp_use h1 h2
  · exact wp_useO h1 h2
theorem wp_lenL (h : LkS e[i]? (fun _ => Wp (dFn fLen (dCons (dUse i) dNil) e s) Q R) (fun xs => Q (.int xs.length) e s)) : Wp (dLenO i e s) Q R := by
  rcases h with ⟨p, h1, h2⟩ | ⟨xs, h1, h2⟩
  · exact wp_lenV h1 h2
  · exact wp_lenO h1 h2
theorem wp_ixL {db : Cd PV} (h : LkS e[i]? (fun _ => Wp (dOp pIx (dUse i) db e s) Q R) (fun _ => Wp (db e s) (fun k e s => ∃ xs j w, e[i]? = some (.own xs) ∧ k = .int j ∧ atI xs j = some w ∧ Q w e s) R)) : Wp (dIxO i db e s) Q R := by
  rcases h with ⟨p, h1, h2⟩ | ⟨xs, h1, h2⟩
  · exact wp_ixV h1 h2
  · exact wp_ixO h1 h2
theorem wp_mthL {mf : List PV → List PV → Option (PV × List PV)} {d : Cd (List PV)} (h : LkS e[i]? (fun _ => False) (fun _ => Wp (d e s) (fun ps e s => ∃ xs w xs', e[i]? = some (.own xs) ∧ mf xs ps = some (w, xs') ∧ Q w (e.set i (.own xs')) s) R)) : Wp (dMthO i mf d e s) Q R := by
  rcases h with ⟨p, h1, h2⟩ | ⟨xs, h1, h2⟩
  · exact h2.elim
  · exact wp_mthO h1 h2
theorem wp_gtupC {n : Nat} {gs : List PV → Cd Unit} {ps : List PV} {Q : Pq Unit} (hl : ps.length = n) (h : Wp (gs ps e s) Q R) : Wp (gTupD n gs (.tup ps) e s) Q R := wp_gtup rfl hl h
theorem wp_gtupZ {n : Nat} {gs : List PV → Cd Unit} {ps : List PV} {Q : Pq Unit} (hl : ps.length = n) (h : Wp (gs ps e s) Q R) : Wp (gTupD n gs (.tuz ps) e s) Q R := by
  unfold gTupD
  simp only [hl, if_true]
  exact h
end
theorem x_own1 {o : Option Slot} {ys : List PV} {A : List PV → Prop} (h : o = some (.own ys)) (k : A ys) : ∃ ys, o = some (.own ys) ∧ A ys := ⟨ys, h, k⟩
theorem x_setO {e : Env} {i : Nat} {k : PV} {xs : List PV} {j : Int} {m : Nat} {A : List PV → Nat → Prop} (h1 : e[i]? = some (.own xs)) (h2 : k = .int j) (h3 : ixN xs.length j = some m) (h : A xs m) : ∃ xs j m, e[i]? = some (.own xs) ∧ k = .int j ∧ ixN xs.length j = some m ∧ A xs m := ⟨xs, j, m, h1, h2, h3, h⟩
theorem x_tupf {s : Stt} {p : List PV} {w : PV} {Q : PV → Prop} (hf : fTuple s p = some w) (h : Q w) : ∃ w, fTuple s p = some w ∧ Q w := ⟨w, hf, h⟩
theorem x_minf {s : Stt} {p : List PV} {w : PV} {Q : PV → Prop} (hf : fMin s p = some w) (h : Q w) : ∃ w, fMin s p = some w ∧ Q w := ⟨w, hf, h⟩
theorem x_maxf {s : Stt} {p : List PV} {w : PV} {Q : PV → Prop} (hf : fMax s p = some w) (h : Q w) : ∃ w, fMax s p = some w ∧ Q w := ⟨w, hf, h⟩
theorem Wp.mono' {α : Type} {e : Env} {s : Stt} {d : Cd α} (Q : Pq α) (R : Pr) {Q' : Pq α} {R' : Pr} (h : Wp (d e s) Q R) (hq : ∀ a e s, Q a e s → Q' a e s) (hr : ∀ c w e s, R c w e s → R' c w e s) : Wp (d e s) Q' R' := Wp.mono h hq hr
theorem pAdd_lst (S : Stt) (xs ys : List PV) (h : xs.length + ys.length ≤ sizeLine) : pAdd S (.lst xs) (.lst ys) = some (.lst (xs ++ ys)) := by
  show (if xs.length + ys.length ≤ sizeLine then some (PV.lst (xs ++ ys)) else none) = _
  rw [if_pos h]
theorem x_addL {s : Stt} {xs ys : List PV} {Q : PV → Prop} (h : xs.length + ys.length ≤ sizeLine) (hq : Q (.lst (xs ++ ys))) : ∃ w, pAdd s (.lst xs) (.lst ys) = some w ∧ Q w := ⟨_, pAdd_lst s xs ys h, hq⟩
/-- xs[:n] -/
theorem cut_to (xs : List PV) (n : Nat) : cutP xs none (some (n : Int)) = xs.take n := by
  unfold cutP
  rw [HT.sIx_nat, HT.sIx_none]
  simp only [List.drop_zero, Nat.sub_zero]
  by_cases h : n ≤ xs.length
  · rw [Nat.min_eq_left h]
  · rw [Nat.min_eq_right (by omega), List.take_of_length_le (Nat.le_refl _), List.take_of_length_le (by omega)]
end FS
set_option Elab.async false
set_option linter.all false
set_option maxRecDepth 100000
/-! FsWp3: the rules for try with several clauses, for lambdas, for a, b, c = x, y, z. -/
namespace FS
open PySem L2
section
variable {α β : Type} {e : Env} {s : Stt} {R : Pr} {QS : Pq Flw} {Q : Pq PV}
theorem wp_par3 {i j l : Nat} {d : Cd (List PV)} (h : Wp (d e s) (fun ps e s => ∃ p q r, ps = [p, q, r] ∧ QS .next (((e.set i (.val p)).set j (.val q)).set l (.val r)) s) R) : Wp (dPar3 i j l d e s) QS R :=
  wp_bnd (Wp.mono h (fun ps e1 s1 ⟨p, q, r, e2, h2⟩ => by
    subst e2
    exact h2) fun _ _ _ _ h => h)
theorem x_par3 {p q r : PV} {Q : PV → PV → PV → Prop} (h : Q p q r) : ∃ p' q' r', [p, q, r] = [p', q', r'] ∧ Q p' q' r' := ⟨p, q, r, rfl, h⟩
end
theorem x_mulT {s : Stt} {xs : List PV} {k : Int} {Q : PV → Prop} (h1 : xs ≠ []) (h2 : k < 1048576 ∧ -1048576 < k ∧ xs.length * k.toNat ≤ sizeLine ∧ xs.length ≤ sizeLine) (hq : Q (.tup (List.replicate k.toNat xs).flatten)) : ∃ w, pMulA s (.tup xs) (.int k) = some w ∧ Q w := by
  refine ⟨_, ?_, hq⟩
  have e2 : pMulT s (.tup xs) (.int k) = some (.tup (List.replicate k.toNat xs).flatten) := by
    show (if xs ≠ [] ∧ k < 1048576 ∧ -1048576 < k ∧ xs.length * k.toNat ≤ sizeLine ∧ xs.length ≤ sizeLine then some (PV.tup (List.replicate k.toNat xs).flatten) else none) = _
    rw [if_pos ⟨h1, h2⟩]
  have e1 : pMul s (.tup xs) (.int k) = none := rfl
  unfold pMulA
  rw [e1]
  exact e2
end FS
set_option Elab.async false
set_option linter.all false
set_option maxRecDepth 100000
/-! FsWp4: the rules for sum, range with a step, new lists side by side. -/
namespace FS
open PySem L2
section
variable {α β : Type} {e : Env} {s : Stt} {R : Pr} {QS : Pq Flw} {Q : Pq PV} {i j l : Nat}
theorem wp_rng3 {d : Cd (List PV)} {Q : Pq (List PV)} (h : Wp (d e s) (fun ps e s => ∃ xs, rng3 ps = some xs ∧ Q xs e s) R) : Wp (dRng3 d e s) Q R :=
  wp_bnd (Wp.mono h (fun ps e1 s1 ⟨xs, e2, h2⟩ => wp_lift e2 h2) fun _ _ _ _ h => h)
theorem wp_ownSet {da : Cd (List PV)} {db : Cd PV} (h : Wp (da e s) (fun xs e s => Wp (db e s) (fun q e s => QS .next ((e.set i (.own xs)).set j (.val q)) s) (fun _ _ _ _ => False)) R) : Wp (dOwnSet i j da db e s) QS R :=
  wp_bnd (Wp.mono h (fun xs e1 s1 h1 => by
    show Wp (match db e1 s1 with | .ok q e s => .ok .next ((e.set i (.own xs)).set j (.val q)) s | _ => .bad) QS R
    cases q : db e1 s1 with
    | bad => rw [q] at h1; exact h1.elim
    | raise c w e2 s2 => rw [q] at h1; exact h1.elim
    | ok p e2 s2 => rw [q] at h1; exact h1) fun _ _ _ _ h => h)
theorem wp_setOwnNil {da : Cd PV} {db : Cd (List PV)} (h : Wp (da e s) (fun p e s => Wp (db e s) (fun xs e s => QS .next (((e.set i (.val p)).set j (.own xs)).set l (.own [])) s) R) R) : Wp (dSetOwnNil i j l da db e s) QS R :=
  wp_bnd (Wp.mono h (fun p e1 s1 h1 => wp_bnd (Wp.mono h1 (fun xs e2 s2 h2 => h2) fun _ _ _ _ h => h)) fun _ _ _ _ h => h)
theorem x_sumT {s : Stt} {xs : List PV} {ns : List Int} {Q : PV → Prop} (h : intsOf xs = some ns) (hq : Q (.int ns.sum)) : ∃ w, fSum s [.tup xs] = some w ∧ Q w := ⟨_, by
  show (intsOf xs).map (fun ns => PV.int ns.sum) = _
  rw [h]
  rfl, hq⟩
theorem intsOf_map : ∀ ns : List Int, intsOf (ns.map PV.int) = some ns
  | [] => rfl
  | n :: ns => by
    show (intsOf (ns.map PV.int)).map (n :: ·) = _
    rw [intsOf_map ns]
    rfl
end
end FS
set_option Elab.async false
set_option linter.all false
set_option maxRecDepth 100000
/-! FsWp5: count, sum and all of generator expressions. -/
namespace FS
open PySem L2
section
variable {α β : Type} {e : Env} {s : Stt} {R : Pr} {QS : Pq Flw} {Q : Pq PV}
theorem wp_count {da : Cd PV} {db : Cd (List PV)} (h : Wp (da e s) (fun p e s => ∃ xs ns, p = .tup xs ∧ intsOf xs = some ns ∧ Wp (db e s) (fun qs e s => ∃ i, qs = [.int i] ∧ Q (.int (ns.count i : Nat)) e s) R) R) : Wp (dCount da db e s) Q R :=
  wp_bnd (Wp.mono h (fun p e1 s1 ⟨xs, ns, h1, h2, h3⟩ => by
    subst h1
    simp only [h2]
    exact wp_bnd (Wp.mono h3 (fun qs e2 s2 ⟨i, h4, h5⟩ => by
      subst h4
      exact h5) fun _ _ _ _ h => h)) fun _ _ _ _ h => h)
theorem wp_sumG {d : Cd (List PV)} {q : Env → PV → Option PV} (h : Wp (d e s) (fun ps e s => ∃ rs ns, qMap q e ps = some rs ∧ intsOf rs = some ns ∧ few ns = true ∧ Q (.int ns.sum) e s) R) : Wp (dSumG d q e s) Q R :=
  wp_bnd (Wp.mono h (fun ps e1 s1 ⟨rs, ns, h1, h2, h3, h4⟩ => by
    simp only [h1, Option.bind_some, h2, h3, if_true]
    exact h4) fun _ _ _ _ h => h)
theorem wp_allG {d : Cd (List PV)} {q : Env → PV → Option PV} (h : Wp (d e s) (fun ps e s => ∃ rs bs, qMap q e ps = some rs ∧ blsOf rs = some bs ∧ Q (.bl (bs.all id)) e s) R) : Wp (dAllG d q e s) Q R :=
  wp_bnd (Wp.mono h (fun ps e1 s1 ⟨rs, ns, h1, h2, h4⟩ => by
    simp only [h1, Option.bind_some, h2]
    exact h4) fun _ _ _ _ h => h)
end
end FS
set_option Elab.async false
set_option linter.all false
set_option maxRecDepth 100000
/-! FsWp6: the rules of FsAug. -/
namespace FS
open PySem L2
end FS
set_option Elab.async false
set_option linter.all false
set_option maxRecDepth 100000
/-! FsWp7: the rules of FsUnl, FsOwnIt, FsRem. -/
namespace FS
open PySem L2
end FS
set_option Elab.async false
set_option linter.all false
set_option maxRecDepth 100000
/-! FsWp8: the rules of FsGc5, FsMet3. -/
namespace FS
open PySem L2
end FS
set_option Elab.async false
set_option linter.all false
set_option maxRecDepth 100000
/-! FsWi: the rules of FsWp and FsWp2 over a predicate that Lean does not run (printed by our wi.py). -/
namespace FS
open PySem L2
namespace I
/-- as FS.Wp, but nobody looks into it -/
@[irreducible] def Wp {α : Type} (o : Out α) (Q : Pq α) (R : Pr) : Prop := FS.Wp o Q R
theorem Wp_eq {α : Type} (o : Out α) (Q : Pq α) (R : Pr) : Wp o Q R = FS.Wp o Q R := by unfold Wp; rfl
section
variable {α β : Type} {e : Env} {s : Stt} {R : Pr}
theorem Wp.mono {o : Out α} {Q Q' : Pq α} {R R' : Pr} (h : Wp o Q R) (hq : ∀ a e s, Q a e s → Q' a e s) (hr : ∀ c w e s, R c w e s → R' c w e s) : Wp o Q' R' := by
  simp only [Wp_eq] at *
  exact FS.Wp.mono h hq hr
theorem wp_ret {a : α} {Q : Pq α} (h : Q a e s) : Wp (ret a e s) Q R := by
  simp only [Wp_eq] at *
  exact FS.wp_ret h
variable {Q : Pq PV}
theorem wp_use {i : Nat} {p : PV} (h : e[i]? = some (.val p)) (hq : Q p e s) : Wp (dUse i e s) Q R := by
  simp only [Wp_eq] at *
  exact FS.wp_use h hq
theorem wp_useO {i : Nat} {xs : List PV} (h : e[i]? = some (.own xs)) (hq : Q (.lst xs) (e.set i (.val (.lst xs))) s) : Wp (dUse i e s) Q R := by
  simp only [Wp_eq] at *
  exact FS.wp_useO h hq
theorem wp_op {f : Stt → PV → PV → Option PV} {a b : Cd PV} (h : Wp (a e s) (fun p e s => Wp (b e s) (fun q e s => ∃ w, f s p q = some w ∧ Q w e s) R) R) : Wp (dOp f a b e s) Q R := by
  simp only [Wp_eq] at *
  exact FS.wp_op h
theorem wp_un {f : PV → Option PV} {a : Cd PV} (h : Wp (a e s) (fun p e s => ∃ w, f p = some w ∧ Q w e s) R) : Wp (dUn f a e s) Q R := by
  simp only [Wp_eq] at *
  exact FS.wp_un h
theorem wp_nil {Q : Pq (List PV)} (h : Q [] e s) : Wp (dNil e s) Q R := by
  simp only [Wp_eq] at *
  exact FS.wp_nil h
theorem wp_cons {a : Cd PV} {r : Cd (List PV)} {Q : Pq (List PV)} (h : Wp (a e s) (fun p e s => Wp (r e s) (fun ps e s => Q (p :: ps) e s) R) R) : Wp (dCons a r e s) Q R := by
  simp only [Wp_eq] at *
  exact FS.wp_cons h
theorem wp_tup {d : Cd (List PV)} (h : Wp (d e s) (fun ps e s => ps.length ≤ sizeLine ∧ Q (.tup ps) e s) R) : Wp (dTup d e s) Q R := by
  simp only [Wp_eq] at *
  exact FS.wp_tup h
theorem wp_disp {d : Cd (List PV)} {Q : Pq (List PV)} (h : Wp (d e s) (fun ps e s => ps.length ≤ sizeLine ∧ Q ps e s) R) : Wp (dDisp d e s) Q R := by
  simp only [Wp_eq] at *
  exact FS.wp_disp h
theorem wp_frz {d : Cd (List PV)} (h : Wp (d e s) (fun ps e s => Q (.lst ps) e s) R) : Wp (dFrz d e s) Q R := by
  simp only [Wp_eq] at *
  exact FS.wp_frz h
theorem wp_new {d : Cd (List PV)} (h : Wp (d e s) (fun xs e s => Q (.ref s.length) e (s ++ [.lst xs])) R) : Wp (dNew d e s) Q R := by
  simp only [Wp_eq] at *
  exact FS.wp_new h
theorem wp_b {d : Cd PV} {Q : Pq Bool} (h : Wp (d e s) (fun p e s => ∃ b, asB p = some b ∧ Q b e s) R) : Wp (dB d e s) Q R := by
  simp only [Wp_eq] at *
  exact FS.wp_b h
theorem wp_tru {d : Cd PV} {Q : Pq Bool} (h : Wp (d e s) (fun p e s => ∃ b, tru s p = some b ∧ Q b e s) R) : Wp (dTru d e s) Q R := by
  simp only [Wp_eq] at *
  exact FS.wp_tru h
theorem wp_notT {d : Cd Bool} {Q : Pq Bool} (h : Wp (d e s) (fun b e s => Q (!b) e s) R) : Wp (dNotT d e s) Q R := by
  simp only [Wp_eq] at *
  exact FS.wp_notT h
theorem wp_andT {d r : Cd Bool} {Q : Pq Bool} (h : Wp (d e s) (fun b e s => (b = true → Wp (r e s) Q R) ∧ (b = false → Q false e s)) R) : Wp (dAndT d r e s) Q R := by
  simp only [Wp_eq] at *
  exact FS.wp_andT h
theorem wp_orT {d r : Cd Bool} {Q : Pq Bool} (h : Wp (d e s) (fun b e s => (b = true → Q true e s) ∧ (b = false → Wp (r e s) Q R)) R) : Wp (dOrT d r e s) Q R := by
  simp only [Wp_eq] at *
  exact FS.wp_orT h
theorem wp_andV {d r : Cd PV} (h : Wp (d e s) (fun p e s => ∃ b, asB p = some b ∧ (b = true → Wp (r e s) Q R) ∧ (b = false → Q (.bl false) e s)) R) : Wp (dAndV d r e s) Q R := by
  simp only [Wp_eq] at *
  exact FS.wp_andV h
theorem wp_orV {d r : Cd PV} (h : Wp (d e s) (fun p e s => ∃ b, asB p = some b ∧ (b = true → Q (.bl true) e s) ∧ (b = false → Wp (r e s) Q R)) R) : Wp (dOrV d r e s) Q R := by
  simp only [Wp_eq] at *
  exact FS.wp_orV h
theorem wp_notV {d : Cd PV} (h : Wp (d e s) (fun p e s => ∃ b, asB p = some b ∧ Q (.bl (!b)) e s) R) : Wp (dNotV d e s) Q R := by
  simp only [Wp_eq] at *
  exact FS.wp_notV h
theorem wp_ife {t : Cd Bool} {a b : Cd PV} (h : Wp (t e s) (fun k e s => (k = true → Wp (a e s) Q R) ∧ (k = false → Wp (b e s) Q R)) R) : Wp (dIfE t a b e s) Q R := by
  simp only [Wp_eq] at *
  exact FS.wp_ife h
theorem wp_chain {f f' : Stt → PV → PV → Option PV} {a b c : Cd PV} (h : Wp (a e s) (fun p e s => Wp (b e s) (fun q e s => ∃ k, f s p q = some (.bl k) ∧ (k = true → Wp (c e s) (fun r e s => ∃ w, f' s q r = some w ∧ Q w e s) R) ∧ (k = false → Q (.bl false) e s)) R) R) : Wp (dChain f f' a b c e s) Q R := by
  simp only [Wp_eq] at *
  exact FS.wp_chain h
theorem wp_fn {g : Stt → List PV → Option PV} {d : Cd (List PV)} (h : Wp (d e s) (fun ps e s => ∃ w, g s ps = some w ∧ Q w e s) R) : Wp (dFn g d e s) Q R := by
  simp only [Wp_eq] at *
  exact FS.wp_fn h
theorem wp_call {n : Nat} {den : List PV → Stt → Res} {d : Cd (List PV)} (h : Wp (d e s) (fun ps e s => ps.length = n ∧ Fn (den ps s) (fun p s => Q p e s) (fun c w s => R c w e s)) R) : Wp (dCall n den d e s) Q R := by
  simp only [Wp_eq] at *
  exact FS.wp_call h
theorem wp_noPart {Q : Pq (Option Int)} (h : Q none e s) : Wp (dNoPart e s) Q R := by
  simp only [Wp_eq] at *
  exact FS.wp_noPart h
theorem wp_part {d : Cd PV} {Q : Pq (Option Int)} (h : Wp (d e s) (fun p e s => ∃ i, p = .int i ∧ Q (some i) e s) R) : Wp (dPart d e s) Q R := by
  simp only [Wp_eq] at *
  exact FS.wp_part h
theorem wp_cut {d : Cd PV} {l h' : Cd (Option Int)} (h : Wp (d e s) (fun p e s => Wp (l e s) (fun l e s => Wp (h' e s) (fun u e s => ∃ w, pCut s p l u = some w ∧ Q w e s) R) R) R) : Wp (dCut d l h' e s) Q R := by
  simp only [Wp_eq] at *
  exact FS.wp_cut h
theorem wp_list {d : Cd PV} {Q : Pq (List PV)} (h : Wp (d e s) (fun p e s => ∃ xs, itemsOf s p = some xs ∧ Q xs e s) R) : Wp (dListF d e s) Q R := by
  simp only [Wp_eq] at *
  exact FS.wp_list h
theorem wp_mthO {i : Nat} {mf : List PV → List PV → Option (PV × List PV)} {d : Cd (List PV)} {ys : List PV} (h0 : e[i]? = some (.own ys))
    (h : Wp (d e s) (fun ps e s => ∃ xs w xs', e[i]? = some (.own xs) ∧ mf xs ps = some (w, xs') ∧ Q w (e.set i (.own xs')) s) R) : Wp (dMthO i mf d e s) Q R := by
  simp only [Wp_eq] at *
  exact FS.wp_mthO h0 h
theorem wp_mthR {mf : List PV → List PV → Option (PV × List PV)} {o : Cd PV} {d : Cd (List PV)} (h : Wp (o e s) (fun p e s => ∃ n ys, p = .ref n ∧ s[n]? = some (.lst ys) ∧ Wp (d e s) (fun ps e s => ∃ xs w xs', s[n]? = some (.lst xs) ∧ mf xs ps = some (w, xs') ∧ Q w e (s.set n (.lst xs'))) R) R) : Wp (dMthR mf o d e s) Q R := by
  simp only [Wp_eq] at *
  exact FS.wp_mthR h
variable {QS : Pq Flw} {d : Cd PV}
theorem wp_nxt (h : QS .next e s) : Wp (nxt e s) QS R := by
  simp only [Wp_eq] at *
  exact FS.wp_nxt h
theorem wp_seq {a b : Cd Flw} (h : Wp (a e s) (SQ (fun e s => Wp (b e s) QS R) QS) R) : Wp (dSeq a b e s) QS R := by
  simp only [Wp_eq] at *
  exact FS.wp_seq h
theorem wp_drop (h : Wp (d e s) (fun _ e s => QS .next e s) R) : Wp (dDrop d e s) QS R := by
  simp only [Wp_eq] at *
  exact FS.wp_drop h
theorem wp_dret (h : Wp (d e s) (fun p e s => QS (.ret p) e s) R) : Wp (dRet d e s) QS R := by
  simp only [Wp_eq] at *
  exact FS.wp_dret h
theorem wp_if {t : Cd Bool} {a b : Cd Flw} (h : Wp (t e s) (fun k e s => (k = true → Wp (a e s) QS R) ∧ (k = false → Wp (b e s) QS R)) R) : Wp (dIf t a b e s) QS R := by
  simp only [Wp_eq] at *
  exact FS.wp_if h
theorem wp_set {i : Nat} (h : Wp (d e s) (fun p e s => QS .next (e.set i (.val p)) s) R) : Wp (dSet i d e s) QS R := by
  simp only [Wp_eq] at *
  exact FS.wp_set h
theorem wp_own {i : Nat} {d : Cd (List PV)} (h : Wp (d e s) (fun xs e s => QS .next (e.set i (.own xs)) s) R) : Wp (dOwn i d e s) QS R := by
  simp only [Wp_eq] at *
  exact FS.wp_own h
theorem wp_asg {g : PV → Cd Unit} (h : Wp (d e s) (fun p e s => Wp (g p e s) (fun _ e s => QS .next e s) R) R) : Wp (dAsg d g e s) QS R := by
  simp only [Wp_eq] at *
  exact FS.wp_asg h
theorem wp_gset {i : Nat} {p : PV} {Q : Pq Unit} (h : Q () (e.set i (.val p)) s) : Wp (gSet i p e s) Q R := by
  simp only [Wp_eq] at *
  exact FS.wp_gset h
theorem wp_gcons {g : PV → Cd Unit} {gs : List PV → Cd Unit} {p : PV} {ps : List PV} {Q : Pq Unit} (h : Wp (g p e s) (fun _ e s => Wp (gs ps e s) Q R) R) : Wp (gsCons g gs (p :: ps) e s) Q R := by
  simp only [Wp_eq] at *
  exact FS.wp_gcons h
theorem wp_gnil {Q : Pq Unit} (h : Q () e s) : Wp (gsNil [] e s) Q R := by
  simp only [Wp_eq] at *
  exact FS.wp_gnil h
theorem wp_par {i j : Nat} {d : Cd (List PV)} (h : Wp (d e s) (fun ps e s => ∃ p q, ps = [p, q] ∧ QS .next ((e.set i (.val p)).set j (.val q)) s) R) : Wp (dPar i j d e s) QS R := by
  simp only [Wp_eq] at *
  exact FS.wp_par h
theorem wp_setO {i : Nat} {di dv : Cd PV} (h : Wp (dv e s) (fun w e s => ∃ ys, e[i]? = some (.own ys) ∧ Wp (di e s) (fun k e s => ∃ xs j m, e[i]? = some (.own xs) ∧ k = .int j ∧ ixN xs.length j = some m ∧ QS .next (e.set i (.own (xs.set m w))) s) R) R) : Wp (dSetO i di dv e s) QS R := by
  simp only [Wp_eq] at *
  exact FS.wp_setO h
theorem wp_setR {o di dv : Cd PV} (h : Wp (dv e s) (fun w e s => Wp (o e s) (fun p e s => Wp (di e s) (fun k e s => ∃ n xs j m, p = .ref n ∧ k = .int j ∧ s[n]? = some (.lst xs) ∧ ixN xs.length j = some m ∧ QS .next e (s.set n (.lst (xs.set m w)))) R) R) R) : Wp (dSetR o di dv e s) QS R := by
  simp only [Wp_eq] at *
  exact FS.wp_setR h
theorem wp_raise {c : Str} (h : Wp (d e s) (fun p e s => R c p e s) R) : Wp (dRaise c d e s) QS R := by
  simp only [Wp_eq] at *
  exact FS.wp_raise h
theorem wp_for {it : Cd (List PV)} {g : PV → Cd Unit} {b : Cd Flw} (h : Wp (it e s) (fun ps e s => ∃ I : Nat → Env → Stt → Prop, I 0 e s ∧ (∀ (i : Nat) (p : PV) (e : Env) (s : Stt), ps[i]? = some p → I i e s → Wp (g p e s) (fun _ e s => Wp (b e s) (LQ (I (i + 1)) QS) R) R) ∧ ∀ e s, I ps.length e s → QS .next e s) R) :
    Wp (dFor it g b e s) QS R := by
  simp only [Wp_eq] at *
  exact FS.wp_for h
theorem wp_items {Q : Pq (List PV)} (h : Wp (d e s) (fun p e s => ∃ xs, itemsF p = some xs ∧ Q xs e s) R) : Wp (dItems d e s) Q R := by
  simp only [Wp_eq] at *
  exact FS.wp_items h
theorem wp_rng1 {d : Cd (List PV)} {Q : Pq (List PV)} (h : Wp (d e s) (fun ps e s => ∃ xs, rng1 ps = some xs ∧ Q xs e s) R) : Wp (dRng1 d e s) Q R := by
  simp only [Wp_eq] at *
  exact FS.wp_rng1 h
theorem wp_rng2 {d : Cd (List PV)} {Q : Pq (List PV)} (h : Wp (d e s) (fun ps e s => ∃ xs, rng2 ps = some xs ∧ Q xs e s) R) : Wp (dRng2 d e s) Q R := by
  simp only [Wp_eq] at *
  exact FS.wp_rng2 h
theorem wp_zip {d : Cd (List PV)} {Q : Pq (List PV)} (h : Wp (d e s) (fun ps e s => ∃ xs, zip2 ps = some xs ∧ Q xs e s) R) : Wp (dZip d e s) Q R := by
  simp only [Wp_eq] at *
  exact FS.wp_zip h
theorem wp_while {c : Cd Bool} {b : Cd Flw} (I : Env → Stt → Prop) (m : Env → Stt → Nat) (h0 : I e s)
    (h1 : ∀ e s, I e s → Wp (c e s) (fun k e1 s1 => (k = true → Wp (b e1 s1) (LQ (fun e2 s2 => I e2 s2 ∧ m e2 s2 < m e s) QS) R) ∧ (k = false → QS .next e1 s1)) R) : Wp (dWhile c b e s) QS R := by
  simp only [Wp_eq] at *
  exact FS.wp_while I m h0 h1
theorem fn_run {n k : Nat} {b : Cd Flw} {ps : List PV} {s : Stt} {Q : PV → Stt → Prop} {R : Str → PV → Stt → Prop} (hl : ps.length = k) (h : Wp (b (ps.map Slot.val ++ List.replicate (n - k) Slot.none) s) (FQ Q) (fun c w _ s => R c w s)) : Fn (runD n k b ps s) Q R := by
  simp only [Wp_eq] at *
  exact FS.fn_run hl h
theorem wp_comp {items : Cd (List PV)} {own : List Nat} {g : PV → Cd Unit} {t : Cd Bool} {d : Cd PV} {QL : Pq (List PV)}
    (h : Wp (items e s) (fun ps e1 s => ∃ I : Nat → List PV → Env → Stt → Prop, I 0 [] (wipeE e1 own) s ∧
      (∀ (i : Nat) (p : PV) (acc : List PV) (e : Env) (s : Stt), ps[i]? = some p → I i acc e s → Wp (g p e s) (fun _ e s => Wp (t e s) (fun k e s => (k = true → Wp (d e s) (fun w e s => acc.length < sizeLine ∧ I (i + 1) (acc ++ [w]) (wipeE e own) s) (fun _ _ _ _ => False)) ∧ (k = false → I (i + 1) acc (wipeE e own) s)) (fun _ _ _ _ => False)) (fun _ _ _ _ => False)) ∧
      ∀ acc e2 s, I ps.length acc e2 s → QL acc (restE e1 e2 own) s) R) : Wp (dComp items own g t d e s) QL R := by
  simp only [Wp_eq] at *
  exact FS.wp_comp h
end
section
variable {α β : Type} {e : Env} {s : Stt} {R : Pr} {Q : Pq PV} {QL : Pq (List PV)} {QS : Pq Flw} {i j : Nat}
theorem wp_lenO {xs : List PV} (h : e[i]? = some (.own xs)) (hq : Q (.int xs.length) e s) : Wp (dLenO i e s) Q R := by
  simp only [Wp_eq] at *
  exact FS.wp_lenO h hq
theorem wp_lenV {p : PV} (h : e[i]? = some (.val p)) (hq : Wp (dFn fLen (dCons (dUse i) dNil) e s) Q R) : Wp (dLenO i e s) Q R := by
  simp only [Wp_eq] at *
  exact FS.wp_lenV h hq
theorem wp_ixO {ys : List PV} {db : Cd PV} (h : e[i]? = some (.own ys)) (hq : Wp (db e s) (fun k e s => ∃ xs j w, e[i]? = some (.own xs) ∧ k = .int j ∧ atI xs j = some w ∧ Q w e s) R) : Wp (dIxO i db e s) Q R := by
  simp only [Wp_eq] at *
  exact FS.wp_ixO h hq
theorem wp_ixV {p : PV} {db : Cd PV} (h : e[i]? = some (.val p)) (hq : Wp (dOp pIx (dUse i) db e s) Q R) : Wp (dIxO i db e s) Q R := by
  simp only [Wp_eq] at *
  exact FS.wp_ixV h hq
theorem wp_inO {neg : Bool} {da : Cd PV} (hq : Wp (da e s) (fun p e s => (∃ xs w, e[i]? = some (.own xs) ∧ inL neg p xs = some w ∧ Q w e s) ∨ (∃ q w, e[i]? = some (.val q) ∧ (if neg then pNotInA s p q else pInA s p q) = some w ∧ Q w e s)) R) : Wp (dInO neg da i e s) Q R := by
  simp only [Wp_eq] at *
  exact FS.wp_inO hq
theorem wp_mulL {da db : Cd PV} (h : Wp (da e s) (fun p e s => Wp (db e s) (fun q e s => ∃ xs k, p = .lst xs ∧ q = .int k ∧ (k < 1048576 ∧ -1048576 < k ∧ xs.length * k.toNat ≤ sizeLine) ∧ QL (List.replicate k.toNat xs).flatten e s) R) R) : Wp (dMulL da db e s) QL R := by
  simp only [Wp_eq] at *
  exact FS.wp_mulL h
theorem wp_catL {da db : Cd PV} (h : Wp (da e s) (fun p e s => Wp (db e s) (fun q e s => ∃ xs ys, p = .lst xs ∧ q = .lst ys ∧ xs.length + ys.length ≤ sizeLine ∧ QL (xs ++ ys) e s) R) R) : Wp (dCatL da db e s) QL R := by
  simp only [Wp_eq] at *
  exact FS.wp_catL h
theorem wp_cutL {d : Cd PV} {l h' : Cd (Option Int)} (h : Wp (d e s) (fun p e s => Wp (l e s) (fun l e s => Wp (h' e s) (fun u e s => ∃ xs, p = .lst xs ∧ QL (cutP xs l u) e s) R) R) R) : Wp (dCutL d l h' e s) QL R := by
  simp only [Wp_eq] at *
  exact FS.wp_cutL h
theorem wp_rngL {d : Cd (List PV)} (h : Wp (d e s) (fun ps e s => ∃ j, ps = [.int j] ∧ (okR j = true ∧ j ≤ 16777216) ∧ QL ((List.range j.toNat).map fun (i : Nat) => PV.int i) e s) R) : Wp (dRngL d e s) QL R := by
  simp only [Wp_eq] at *
  exact FS.wp_rngL h
theorem wp_ownNil {d : Cd (List PV)} (h : Wp (d e s) (fun xs e s => QS .next ((e.set i (.own xs)).set j (.own [])) s) R) : Wp (dOwnNil i j d e s) QS R := by
  simp only [Wp_eq] at *
  exact FS.wp_ownNil h
theorem wp_setNil {d : Cd PV} (h : Wp (d e s) (fun p e s => QS .next ((e.set i (.val p)).set j (.own [])) s) R) : Wp (dSetNil i j d e s) QS R := by
  simp only [Wp_eq] at *
  exact FS.wp_setNil h
theorem wp_zipM {d : Cd (List PV)} {Q : Pq (List PV)} (h : Wp (d e s) (fun ps e s => ∃ xs, zipM ps = some xs ∧ Q xs e s) R) : Wp (dZipM d e s) Q R := by
  simp only [Wp_eq] at *
  exact FS.wp_zipM h
theorem wp_enum {d : Cd (List PV)} {Q : Pq (List PV)} (h : Wp (d e s) (fun ps e s => ∃ xs, enumP ps = some xs ∧ Q xs e s) R) : Wp (dEnum d e s) Q R := by
  simp only [Wp_eq] at *
  exact FS.wp_enum h
end
section
variable {e : Env} {s : Stt} {R : Pr} {Q : Pq PV} {i : Nat}
theorem wp_useL (h : LkS e[i]? (fun p => Q p e s) (fun xs => Q (.lst xs) (e.set i (.val (.lst xs))) s)) : Wp (dUse i e s) Q R := by
  simp only [Wp_eq] at *
  exact FS.wp_useL h
theorem wp_lenL (h : LkS e[i]? (fun _ => Wp (dFn fLen (dCons (dUse i) dNil) e s) Q R) (fun xs => Q (.int xs.length) e s)) : Wp (dLenO i e s) Q R := by
  simp only [Wp_eq] at *
  exact FS.wp_lenL h
theorem wp_ixL {db : Cd PV} (h : LkS e[i]? (fun _ => Wp (dOp pIx (dUse i) db e s) Q R) (fun _ => Wp (db e s) (fun k e s => ∃ xs j w, e[i]? = some (.own xs) ∧ k = .int j ∧ atI xs j = some w ∧ Q w e s) R)) : Wp (dIxO i db e s) Q R := by
  simp only [Wp_eq] at *
  exact FS.wp_ixL h
theorem wp_mthL {mf : List PV → List PV → Option (PV × List PV)} {d : Cd (List PV)} (h : LkS e[i]? (fun _ => False) (fun _ => Wp (d e s) (fun ps e s => ∃ xs w xs', e[i]? = some (.own xs) ∧ mf xs ps = some (w, xs') ∧ Q w (e.set i (.own xs')) s) R)) : Wp (dMthO i mf d e s) Q R := by
  simp only [Wp_eq] at *
  exact FS.wp_mthL h
theorem wp_gtupC {n : Nat} {gs : List PV → Cd Unit} {ps : List PV} {Q : Pq Unit} (hl : ps.length = n) (h : Wp (gs ps e s) Q R) : Wp (gTupD n gs (.tup ps) e s) Q R := by
  simp only [Wp_eq] at *
  exact FS.wp_gtupC hl h
theorem wp_gtupZ {n : Nat} {gs : List PV → Cd Unit} {ps : List PV} {Q : Pq Unit} (hl : ps.length = n) (h : Wp (gs ps e s) Q R) : Wp (gTupD n gs (.tuz ps) e s) Q R := by
  simp only [Wp_eq] at *
  exact FS.wp_gtupZ hl h
end
theorem Wp.mono' {α : Type} {e : Env} {s : Stt} {d : Cd α} (Q : Pq α) (R : Pr) {Q' : Pq α} {R' : Pr} (h : Wp (d e s) Q R) (hq : ∀ a e s, Q a e s → Q' a e s) (hr : ∀ c w e s, R c w e s → R' c w e s) : Wp (d e s) Q' R' := by
  simp only [Wp_eq] at *
  exact FS.Wp.mono' Q R h hq hr
section
variable {α β : Type} {e : Env} {s : Stt} {R : Pr} {QS : Pq Flw} {Q : Pq PV}
theorem wp_par3 {i j l : Nat} {d : Cd (List PV)} (h : Wp (d e s) (fun ps e s => ∃ p q r, ps = [p, q, r] ∧ QS .next (((e.set i (.val p)).set j (.val q)).set l (.val r)) s) R) : Wp (dPar3 i j l d e s) QS R := by
  simp only [Wp_eq] at *
  exact FS.wp_par3 h
end
section
variable {α β : Type} {e : Env} {s : Stt} {R : Pr} {QS : Pq Flw} {Q : Pq PV} {i j l : Nat}
theorem wp_rng3 {d : Cd (List PV)} {Q : Pq (List PV)} (h : Wp (d e s) (fun ps e s => ∃ xs, rng3 ps = some xs ∧ Q xs e s) R) : Wp (dRng3 d e s) Q R := by
  simp only [Wp_eq] at *
  exact FS.wp_rng3 h
theorem wp_ownSet {da : Cd (List PV)} {db : Cd PV} (h : Wp (da e s) (fun xs e s => Wp (db e s) (fun q e s => QS .next ((e.set i (.own xs)).set j (.val q)) s) (fun _ _ _ _ => False)) R) : Wp (dOwnSet i j da db e s) QS R := by
  simp only [Wp_eq] at *
  exact FS.wp_ownSet h
theorem wp_setOwnNil {da : Cd PV} {db : Cd (List PV)} (h : Wp (da e s) (fun p e s => Wp (db e s) (fun xs e s => QS .next (((e.set i (.val p)).set j (.own xs)).set l (.own [])) s) R) R) : Wp (dSetOwnNil i j l da db e s) QS R := by
  simp only [Wp_eq] at *
  exact FS.wp_setOwnNil h
end
section
variable {α β : Type} {e : Env} {s : Stt} {R : Pr} {QS : Pq Flw} {Q : Pq PV}
theorem wp_count {da : Cd PV} {db : Cd (List PV)} (h : Wp (da e s) (fun p e s => ∃ xs ns, p = .tup xs ∧ intsOf xs = some ns ∧ Wp (db e s) (fun qs e s => ∃ i, qs = [.int i] ∧ Q (.int (ns.count i : Nat)) e s) R) R) : Wp (dCount da db e s) Q R := by
  simp only [Wp_eq] at *
  exact FS.wp_count h
theorem wp_sumG {d : Cd (List PV)} {q : Env → PV → Option PV} (h : Wp (d e s) (fun ps e s => ∃ rs ns, qMap q e ps = some rs ∧ intsOf rs = some ns ∧ few ns = true ∧ Q (.int ns.sum) e s) R) : Wp (dSumG d q e s) Q R := by
  simp only [Wp_eq] at *
  exact FS.wp_sumG h
theorem wp_allG {d : Cd (List PV)} {q : Env → PV → Option PV} (h : Wp (d e s) (fun ps e s => ∃ rs bs, qMap q e ps = some rs ∧ blsOf rs = some bs ∧ Q (.bl (bs.all id)) e s) R) : Wp (dAllG d q e s) Q R := by
  simp only [Wp_eq] at *
  exact FS.wp_allG h
end
end I
end FS
set_option Elab.async false
set_option linter.all false
set_option maxRecDepth 100000
/-! FsWp9: the rules of FsForD. -/
namespace FS
open PySem L2
end FS
set_option Elab.async false
set_option linter.all false
set_option maxRecDepth 100000
/-! FsStp: a step of a walk by one look-up (printed by our stp.py). -/
namespace FS
open PySem L2
namespace I
/-- g follows by p -/
class Stp (g : Prop) (p : outParam Prop) : Prop where
  imp : p → g
/-- .. by steps -/
class Run (g : Prop) (p : outParam Prop) : Prop where
  imp : p → g
theorem stp1 {g p : Prop} [a : Stp g p] (k : p) : g := a.imp k
theorem run1 {g q p : Prop} [a : Stp g q] [b : Run q p] (k : p) : g := a.imp (b.imp k)
instance (priority := low) run_id {g : Prop} : Run g g := ⟨fun h => h⟩
instance run_st {g q p : Prop} [a : Stp g q] [b : Run q p] : Run g p := ⟨fun h => a.imp (b.imp h)⟩
/-! frames as lists -/
class EvR (m : Nat) (r : outParam Env) : Prop where
  h : List.replicate m Slot.none = r
instance evr_0 : EvR 0 [] := ⟨rfl⟩
instance evr_s {m : Nat} {r : Env} [a : EvR m r] : EvR (m + 1) (.none :: r) := ⟨by rw [List.replicate_succ, a.h]⟩
class EvA (ps : List PV) (r : Env) (e : outParam Env) : Prop where
  h : ps.map Slot.val ++ r = e
instance eva_0 {r : Env} : EvA [] r r := ⟨rfl⟩
instance eva_s {p : PV} {ps : List PV} {r e : Env} [a : EvA ps r e] : EvA (p :: ps) r (.val p :: e) := ⟨by rw [List.map_cons, List.cons_append, a.h]⟩
class EvS (e : Env) (i : Nat) (v : Slot) (e' : outParam Env) : Prop where
  h : e.set i v = e'
instance evs_0 {a v : Slot} {e : Env} : EvS (a :: e) 0 v (v :: e) := ⟨rfl⟩
instance evs_s {a v : Slot} {e e' : Env} {i : Nat} [k : EvS e i v e'] : EvS (a :: e) (i + 1) v (a :: e') := ⟨by rw [List.set_cons_succ, k.h]⟩
class Evn (e : Env) (e' : outParam Env) : Prop where
  h : e = e'
instance (priority := low) evn_id {e : Env} : Evn e e := ⟨rfl⟩
instance evn_c {a : Slot} {e : Env} : Evn (a :: e) (a :: e) := ⟨rfl⟩
instance evn_s {e e1 e2 : Env} {i : Nat} {v : Slot} [a : Evn e e1] [b : EvS e1 i v e2] : Evn (e.set i v) e2 := ⟨by rw [a.h, b.h]⟩
instance evn_r {ps : List PV} {m : Nat} {r e : Env} [a : EvR m r] [b : EvA ps r e] : Evn (ps.map Slot.val ++ List.replicate m Slot.none) e := ⟨by rw [a.h, b.h]⟩
/-- what a place holds -/
class Lk (e : Env) (i : Nat) (v : outParam Slot) : Prop where
  h : e[i]? = some v
instance lk_0 {a : Slot} {e : Env} : Lk (a :: e) 0 a := ⟨rfl⟩
instance lk_s {a v : Slot} {e : Env} {i : Nat} [k : Lk e i v] : Lk (a :: e) (i + 1) v := ⟨by rw [List.getElem?_cons_succ]; exact k.h⟩
/-! lengths of displays -/
class Len (ps : List PV) (n : outParam Nat) : Prop where
  h : ps.length = n
instance len_0 : Len [] 0 := ⟨rfl⟩
instance len_s {p : PV} {ps : List PV} {n : Nat} [a : Len ps n] : Len (p :: ps) (n + 1) := ⟨by rw [List.length_cons, a.h]⟩
class LenLe (ps : List PV) (n : Nat) : Prop where
  h : ps.length ≤ n
instance lenle_0 {n : Nat} : LenLe [] n := ⟨Nat.zero_le _⟩
instance lenle_s {p : PV} {ps : List PV} {n : Nat} [a : LenLe ps n] : LenLe (p :: ps) (n + 1) := ⟨Nat.succ_le_succ a.h⟩
class LenEq (ps : List PV) (n : Nat) : Prop where
  h : ps.length = n
instance leneq_0 : LenEq [] 0 := ⟨rfl⟩
instance leneq_s {p : PV} {ps : List PV} {n : Nat} [a : LenEq ps n] : LenEq (p :: ps) (n + 1) := ⟨by rw [List.length_cons, a.h]⟩
section
variable {α β : Type} {e : Env} {s : Stt} {R : Pr} {QS : Pq Flw} {Q : Pq PV}
instance st_seq {a b : Cd Flw} {e' : Env} [n : Evn e e'] : Stp (Wp (dSeq a b e s) QS R) (Wp (a e' s) (SQ (fun e s => Wp (b e s) QS R) QS) R) := ⟨fun h => by rw [n.h]; exact wp_seq h⟩
instance st_nxt : Stp (Wp (nxt e s) QS R) (QS .next e s) := ⟨fun h => wp_nxt h⟩
instance st_sq {K : Env → Stt → Prop} {Q : Pq Flw} : Stp (SQ K Q .next e s) (K e s) := ⟨fun h => wp_sq h⟩
instance st_use {i : Nat} {p : PV} {e' : Env} [n : Evn e e'] [k : Lk e' i (.val p)] : Stp (Wp (dUse i e s) Q R) (Q p e' s) := ⟨fun h => by rw [n.h]; exact wp_use k.h h⟩
instance st_useO {i : Nat} {xs : List PV} {e1 e2 : Env} [n : Evn e e1] [k : Lk e1 i (.own xs)] [u : EvS e1 i (.val (.lst xs)) e2] : Stp (Wp (dUse i e s) Q R) (Q (.lst xs) e2 s) := ⟨fun h => by rw [n.h]; refine wp_useO k.h ?_; rw [u.h]; exact h⟩
instance st_lenV {i : Nat} {p : PV} {e' : Env} [n : Evn e e'] [k : Lk e' i (.val p)] : Stp (Wp (dLenO i e s) Q R) (Wp (dFn fLen (dCons (dUse i) dNil) e' s) Q R) := ⟨fun h => by rw [n.h]; exact wp_lenV k.h h⟩
instance st_lenO {i : Nat} {xs : List PV} {e' : Env} [n : Evn e e'] [k : Lk e' i (.own xs)] : Stp (Wp (dLenO i e s) Q R) (Q (.int xs.length) e' s) := ⟨fun h => by rw [n.h]; exact wp_lenO k.h h⟩
instance st_ixV {i : Nat} {p : PV} {db : Cd PV} {e' : Env} [n : Evn e e'] [k : Lk e' i (.val p)] : Stp (Wp (dIxO i db e s) Q R) (Wp (dOp pIx (dUse i) db e' s) Q R) := ⟨fun h => by rw [n.h]; exact wp_ixV k.h h⟩
instance st_ixO {i : Nat} {ys : List PV} {db : Cd PV} {e' : Env} [n : Evn e e'] [k : Lk e' i (.own ys)] : Stp (Wp (dIxO i db e s) Q R) (Wp (db e' s) (fun k e s => ∃ xs j w, e[i]? = some (.own xs) ∧ k = .int j ∧ atI xs j = some w ∧ Q w e s) R) := ⟨fun h => by rw [n.h]; exact wp_ixO k.h h⟩
instance st_mthO {i : Nat} {mf : List PV → List PV → Option (PV × List PV)} {d : Cd (List PV)} {ys : List PV} {e' : Env} [n : Evn e e'] [k : Lk e' i (.own ys)] : Stp (Wp (dMthO i mf d e s) Q R) (Wp (d e' s) (fun ps e s => ∃ xs w xs', e[i]? = some (.own xs) ∧ mf xs ps = some (w, xs') ∧ Q w (e.set i (.own xs')) s) R) := ⟨fun h => by rw [n.h]; exact wp_mthO k.h h⟩
instance st_own1 {i : Nat} {ys : List PV} {A : List PV → Prop} {e' : Env} [n : Evn e e'] [k : Lk e' i (.own ys)] : Stp (∃ ys, e[i]? = some (.own ys) ∧ A ys) (A ys) := ⟨fun h => ⟨ys, by rw [n.h]; exact k.h, h⟩⟩
instance st_low {ps : List PV} {A : Prop} [k : LenLe ps 64] : Stp (ps.length ≤ sizeLine ∧ A) A := ⟨fun h => ⟨Nat.le_trans k.h (Nat.le_of_ble_eq_true rfl), h⟩⟩
instance st_num {ps : List PV} {n : Nat} {A : Prop} [k : LenEq ps n] : Stp (ps.length = n ∧ A) A := ⟨fun h => ⟨k.h, h⟩⟩
instance st_part {i : Int} {Q : Int → Prop} : Stp (∃ j, PV.int i = .int j ∧ Q j) (Q i) := ⟨fun h => ⟨i, rfl, h⟩⟩
instance st_par {p q : PV} {A : PV → PV → Prop} : Stp (∃ p' q', [p, q] = [p', q'] ∧ A p' q') (A p q) := ⟨fun h => ⟨p, q, rfl, h⟩⟩
instance st_gtupC {n : Nat} {gs : List PV → Cd Unit} {ps : List PV} {Q : Pq Unit} [k : LenEq ps n] : Stp (Wp (gTupD n gs (.tup ps) e s) Q R) (Wp (gs ps e s) Q R) := ⟨fun h => wp_gtupC k.h h⟩
instance st_gtupZ {n : Nat} {gs : List PV → Cd Unit} {ps : List PV} {Q : Pq Unit} [k : LenEq ps n] : Stp (Wp (gTupD n gs (.tuz ps) e s) Q R) (Wp (gs ps e s) Q R) := ⟨fun h => wp_gtupZ k.h h⟩
instance st_chpLt {a b : Int} {A : Bool → Prop} : Stp (∃ k, pLt s (.int a) (.int b) = some (.bl k) ∧ A k) (A (decide (a < b))) := ⟨fun h => ⟨_, rfl, h⟩⟩
instance st_chpLe {a b : Int} {A : Bool → Prop} : Stp (∃ k, pLe s (.int a) (.int b) = some (.bl k) ∧ A k) (A (decide (a ≤ b))) := ⟨fun h => ⟨_, rfl, h⟩⟩
instance st_chpGt {a b : Int} {A : Bool → Prop} : Stp (∃ k, pGt s (.int a) (.int b) = some (.bl k) ∧ A k) (A (decide (b < a))) := ⟨fun h => ⟨_, rfl, h⟩⟩
instance st_chpGe {a b : Int} {A : Bool → Prop} : Stp (∃ k, pGe s (.int a) (.int b) = some (.bl k) ∧ A k) (A (decide (b ≤ a))) := ⟨fun h => ⟨_, rfl, h⟩⟩
end
instance st_wp_ret {α : Type} {e : Env} {s : Stt} {R : Pr} {a : α} {Q : Pq α} : Stp (Wp (ret a e s) Q R) (Q a e s) := ⟨fun h => wp_ret h⟩
instance st_wp_op {e : Env} {s : Stt} {R : Pr} {Q : Pq PV} {f : Stt → PV → PV → Option PV} {a b : Cd PV} : Stp (Wp (dOp f a b e s) Q R) (Wp (a e s) (fun p e s => Wp (b e s) (fun q e s => ∃ w, f s p q = some w ∧ Q w e s) R) R) := ⟨fun h => wp_op h⟩
instance st_wp_un {e : Env} {s : Stt} {R : Pr} {Q : Pq PV} {f : PV → Option PV} {a : Cd PV} : Stp (Wp (dUn f a e s) Q R) (Wp (a e s) (fun p e s => ∃ w, f p = some w ∧ Q w e s) R) := ⟨fun h => wp_un h⟩
instance st_wp_nil {e : Env} {s : Stt} {R : Pr} {Q : Pq (List PV)} : Stp (Wp (dNil e s) Q R) (Q [] e s) := ⟨fun h => wp_nil h⟩
instance st_wp_cons {e : Env} {s : Stt} {R : Pr} {a : Cd PV} {r : Cd (List PV)} {Q : Pq (List PV)} : Stp (Wp (dCons a r e s) Q R) (Wp (a e s) (fun p e s => Wp (r e s) (fun ps e s => Q (p :: ps) e s) R) R) := ⟨fun h => wp_cons h⟩
instance st_wp_tup {e : Env} {s : Stt} {R : Pr} {Q : Pq PV} {d : Cd (List PV)} : Stp (Wp (dTup d e s) Q R) (Wp (d e s) (fun ps e s => ps.length ≤ sizeLine ∧ Q (.tup ps) e s) R) := ⟨fun h => wp_tup h⟩
instance st_wp_disp {e : Env} {s : Stt} {R : Pr} {d : Cd (List PV)} {Q : Pq (List PV)} : Stp (Wp (dDisp d e s) Q R) (Wp (d e s) (fun ps e s => ps.length ≤ sizeLine ∧ Q ps e s) R) := ⟨fun h => wp_disp h⟩
instance st_wp_frz {e : Env} {s : Stt} {R : Pr} {Q : Pq PV} {d : Cd (List PV)} : Stp (Wp (dFrz d e s) Q R) (Wp (d e s) (fun ps e s => Q (.lst ps) e s) R) := ⟨fun h => wp_frz h⟩
instance st_wp_new {e : Env} {s : Stt} {R : Pr} {Q : Pq PV} {d : Cd (List PV)} : Stp (Wp (dNew d e s) Q R) (Wp (d e s) (fun xs e s => Q (.ref s.length) e (s ++ [.lst xs])) R) := ⟨fun h => wp_new h⟩
instance st_wp_b {e : Env} {s : Stt} {R : Pr} {d : Cd PV} {Q : Pq Bool} : Stp (Wp (dB d e s) Q R) (Wp (d e s) (fun p e s => ∃ b, asB p = some b ∧ Q b e s) R) := ⟨fun h => wp_b h⟩
instance st_wp_tru {e : Env} {s : Stt} {R : Pr} {d : Cd PV} {Q : Pq Bool} : Stp (Wp (dTru d e s) Q R) (Wp (d e s) (fun p e s => ∃ b, tru s p = some b ∧ Q b e s) R) := ⟨fun h => wp_tru h⟩
instance st_wp_notT {e : Env} {s : Stt} {R : Pr} {d : Cd Bool} {Q : Pq Bool} : Stp (Wp (dNotT d e s) Q R) (Wp (d e s) (fun b e s => Q (!b) e s) R) := ⟨fun h => wp_notT h⟩
instance st_wp_andT {e : Env} {s : Stt} {R : Pr} {d r : Cd Bool} {Q : Pq Bool} : Stp (Wp (dAndT d r e s) Q R) (Wp (d e s) (fun b e s => (b = true → Wp (r e s) Q R) ∧ (b = false → Q false e s)) R) := ⟨fun h => wp_andT h⟩
instance st_wp_orT {e : Env} {s : Stt} {R : Pr} {d r : Cd Bool} {Q : Pq Bool} : Stp (Wp (dOrT d r e s) Q R) (Wp (d e s) (fun b e s => (b = true → Q true e s) ∧ (b = false → Wp (r e s) Q R)) R) := ⟨fun h => wp_orT h⟩
instance st_wp_andV {e : Env} {s : Stt} {R : Pr} {Q : Pq PV} {d r : Cd PV} : Stp (Wp (dAndV d r e s) Q R) (Wp (d e s) (fun p e s => ∃ b, asB p = some b ∧ (b = true → Wp (r e s) Q R) ∧ (b = false → Q (.bl false) e s)) R) := ⟨fun h => wp_andV h⟩
instance st_wp_orV {e : Env} {s : Stt} {R : Pr} {Q : Pq PV} {d r : Cd PV} : Stp (Wp (dOrV d r e s) Q R) (Wp (d e s) (fun p e s => ∃ b, asB p = some b ∧ (b = true → Q (.bl true) e s) ∧ (b = false → Wp (r e s) Q R)) R) := ⟨fun h => wp_orV h⟩
instance st_wp_notV {e : Env} {s : Stt} {R : Pr} {Q : Pq PV} {d : Cd PV} : Stp (Wp (dNotV d e s) Q R) (Wp (d e s) (fun p e s => ∃ b, asB p = some b ∧ Q (.bl (!b)) e s) R) := ⟨fun h => wp_notV h⟩
instance st_wp_ife {e : Env} {s : Stt} {R : Pr} {Q : Pq PV} {t : Cd Bool} {a b : Cd PV} : Stp (Wp (dIfE t a b e s) Q R) (Wp (t e s) (fun k e s => (k = true → Wp (a e s) Q R) ∧ (k = false → Wp (b e s) Q R)) R) := ⟨fun h => wp_ife h⟩
instance st_wp_chain {e : Env} {s : Stt} {R : Pr} {Q : Pq PV} {f f' : Stt → PV → PV → Option PV} {a b c : Cd PV} : Stp (Wp (dChain f f' a b c e s) Q R) (Wp (a e s) (fun p e s => Wp (b e s) (fun q e s => ∃ k, f s p q = some (.bl k) ∧ (k = true → Wp (c e s) (fun r e s => ∃ w, f' s q r = some w ∧ Q w e s) R) ∧ (k = false → Q (.bl false) e s)) R) R) := ⟨fun h => wp_chain h⟩
instance st_wp_fn {e : Env} {s : Stt} {R : Pr} {Q : Pq PV} {g : Stt → List PV → Option PV} {d : Cd (List PV)} : Stp (Wp (dFn g d e s) Q R) (Wp (d e s) (fun ps e s => ∃ w, g s ps = some w ∧ Q w e s) R) := ⟨fun h => wp_fn h⟩
instance st_wp_call {e : Env} {s : Stt} {R : Pr} {Q : Pq PV} {n : Nat} {den : List PV → Stt → Res} {d : Cd (List PV)} : Stp (Wp (dCall n den d e s) Q R) (Wp (d e s) (fun ps e s => ps.length = n ∧ Fn (den ps s) (fun p s => Q p e s) (fun c w s => R c w e s)) R) := ⟨fun h => wp_call h⟩
instance st_wp_noPart {e : Env} {s : Stt} {R : Pr} {Q : Pq (Option Int)} : Stp (Wp (dNoPart e s) Q R) (Q none e s) := ⟨fun h => wp_noPart h⟩
instance st_wp_part {e : Env} {s : Stt} {R : Pr} {d : Cd PV} {Q : Pq (Option Int)} : Stp (Wp (dPart d e s) Q R) (Wp (d e s) (fun p e s => ∃ i, p = .int i ∧ Q (some i) e s) R) := ⟨fun h => wp_part h⟩
instance st_wp_cut {e : Env} {s : Stt} {R : Pr} {Q : Pq PV} {d : Cd PV} {l h' : Cd (Option Int)} : Stp (Wp (dCut d l h' e s) Q R) (Wp (d e s) (fun p e s => Wp (l e s) (fun l e s => Wp (h' e s) (fun u e s => ∃ w, pCut s p l u = some w ∧ Q w e s) R) R) R) := ⟨fun h => wp_cut h⟩
instance st_wp_list {e : Env} {s : Stt} {R : Pr} {d : Cd PV} {Q : Pq (List PV)} : Stp (Wp (dListF d e s) Q R) (Wp (d e s) (fun p e s => ∃ xs, itemsOf s p = some xs ∧ Q xs e s) R) := ⟨fun h => wp_list h⟩
instance st_wp_mthR {e : Env} {s : Stt} {R : Pr} {Q : Pq PV} {mf : List PV → List PV → Option (PV × List PV)} {o : Cd PV} {d : Cd (List PV)} : Stp (Wp (dMthR mf o d e s) Q R) (Wp (o e s) (fun p e s => ∃ n ys, p = .ref n ∧ s[n]? = some (.lst ys) ∧ Wp (d e s) (fun ps e s => ∃ xs w xs', s[n]? = some (.lst xs) ∧ mf xs ps = some (w, xs') ∧ Q w e (s.set n (.lst xs'))) R) R) := ⟨fun h => wp_mthR h⟩
instance st_wp_drop {e : Env} {s : Stt} {R : Pr} {QS : Pq Flw} {d : Cd PV} : Stp (Wp (dDrop d e s) QS R) (Wp (d e s) (fun _ e s => QS .next e s) R) := ⟨fun h => wp_drop h⟩
instance st_wp_dret {e : Env} {s : Stt} {R : Pr} {QS : Pq Flw} {d : Cd PV} : Stp (Wp (dRet d e s) QS R) (Wp (d e s) (fun p e s => QS (.ret p) e s) R) := ⟨fun h => wp_dret h⟩
instance st_wp_if {e : Env} {s : Stt} {R : Pr} {QS : Pq Flw} {t : Cd Bool} {a b : Cd Flw} : Stp (Wp (dIf t a b e s) QS R) (Wp (t e s) (fun k e s => (k = true → Wp (a e s) QS R) ∧ (k = false → Wp (b e s) QS R)) R) := ⟨fun h => wp_if h⟩
instance st_wp_set {e : Env} {s : Stt} {R : Pr} {QS : Pq Flw} {d : Cd PV} {i : Nat} : Stp (Wp (dSet i d e s) QS R) (Wp (d e s) (fun p e s => QS .next (e.set i (.val p)) s) R) := ⟨fun h => wp_set h⟩
instance st_wp_own {e : Env} {s : Stt} {R : Pr} {QS : Pq Flw} {i : Nat} {d : Cd (List PV)} : Stp (Wp (dOwn i d e s) QS R) (Wp (d e s) (fun xs e s => QS .next (e.set i (.own xs)) s) R) := ⟨fun h => wp_own h⟩
instance st_wp_asg {e : Env} {s : Stt} {R : Pr} {QS : Pq Flw} {d : Cd PV} {g : PV → Cd Unit} : Stp (Wp (dAsg d g e s) QS R) (Wp (d e s) (fun p e s => Wp (g p e s) (fun _ e s => QS .next e s) R) R) := ⟨fun h => wp_asg h⟩
instance st_wp_gset {e : Env} {s : Stt} {R : Pr} {i : Nat} {p : PV} {Q : Pq Unit} : Stp (Wp (gSet i p e s) Q R) (Q () (e.set i (.val p)) s) := ⟨fun h => wp_gset h⟩
instance st_wp_gcons {e : Env} {s : Stt} {R : Pr} {g : PV → Cd Unit} {gs : List PV → Cd Unit} {p : PV} {ps : List PV} {Q : Pq Unit} : Stp (Wp (gsCons g gs (p :: ps) e s) Q R) (Wp (g p e s) (fun _ e s => Wp (gs ps e s) Q R) R) := ⟨fun h => wp_gcons h⟩
instance st_wp_gnil {e : Env} {s : Stt} {R : Pr} {Q : Pq Unit} : Stp (Wp (gsNil [] e s) Q R) (Q () e s) := ⟨fun h => wp_gnil h⟩
instance st_wp_par {e : Env} {s : Stt} {R : Pr} {QS : Pq Flw} {i j : Nat} {d : Cd (List PV)} : Stp (Wp (dPar i j d e s) QS R) (Wp (d e s) (fun ps e s => ∃ p q, ps = [p, q] ∧ QS .next ((e.set i (.val p)).set j (.val q)) s) R) := ⟨fun h => wp_par h⟩
instance st_wp_setO {e : Env} {s : Stt} {R : Pr} {QS : Pq Flw} {i : Nat} {di dv : Cd PV} : Stp (Wp (dSetO i di dv e s) QS R) (Wp (dv e s) (fun w e s => ∃ ys, e[i]? = some (.own ys) ∧ Wp (di e s) (fun k e s => ∃ xs j m, e[i]? = some (.own xs) ∧ k = .int j ∧ ixN xs.length j = some m ∧ QS .next (e.set i (.own (xs.set m w))) s) R) R) := ⟨fun h => wp_setO h⟩
instance st_wp_setR {e : Env} {s : Stt} {R : Pr} {QS : Pq Flw} {o di dv : Cd PV} : Stp (Wp (dSetR o di dv e s) QS R) (Wp (dv e s) (fun w e s => Wp (o e s) (fun p e s => Wp (di e s) (fun k e s => ∃ n xs j m, p = .ref n ∧ k = .int j ∧ s[n]? = some (.lst xs) ∧ ixN xs.length j = some m ∧ QS .next e (s.set n (.lst (xs.set m w)))) R) R) R) := ⟨fun h => wp_setR h⟩
instance st_wp_raise {e : Env} {s : Stt} {R : Pr} {QS : Pq Flw} {d : Cd PV} {c : Str} : Stp (Wp (dRaise c d e s) QS R) (Wp (d e s) (fun p e s => R c p e s) R) := ⟨fun h => wp_raise h⟩
instance st_wp_items {e : Env} {s : Stt} {R : Pr} {d : Cd PV} {Q : Pq (List PV)} : Stp (Wp (dItems d e s) Q R) (Wp (d e s) (fun p e s => ∃ xs, itemsF p = some xs ∧ Q xs e s) R) := ⟨fun h => wp_items h⟩
instance st_wp_rng1 {e : Env} {s : Stt} {R : Pr} {d : Cd (List PV)} {Q : Pq (List PV)} : Stp (Wp (dRng1 d e s) Q R) (Wp (d e s) (fun ps e s => ∃ xs, rng1 ps = some xs ∧ Q xs e s) R) := ⟨fun h => wp_rng1 h⟩
instance st_wp_rng2 {e : Env} {s : Stt} {R : Pr} {d : Cd (List PV)} {Q : Pq (List PV)} : Stp (Wp (dRng2 d e s) Q R) (Wp (d e s) (fun ps e s => ∃ xs, rng2 ps = some xs ∧ Q xs e s) R) := ⟨fun h => wp_rng2 h⟩
instance st_wp_zip {e : Env} {s : Stt} {R : Pr} {d : Cd (List PV)} {Q : Pq (List PV)} : Stp (Wp (dZip d e s) Q R) (Wp (d e s) (fun ps e s => ∃ xs, zip2 ps = some xs ∧ Q xs e s) R) := ⟨fun h => wp_zip h⟩
instance st_wp_inO {e : Env} {s : Stt} {R : Pr} {Q : Pq PV} {i : Nat} {neg : Bool} {da : Cd PV} : Stp (Wp (dInO neg da i e s) Q R) (Wp (da e s) (fun p e s => (∃ xs w, e[i]? = some (.own xs) ∧ inL neg p xs = some w ∧ Q w e s) ∨ (∃ q w, e[i]? = some (.val q) ∧ (if neg then pNotInA s p q else pInA s p q) = some w ∧ Q w e s)) R) := ⟨fun h => wp_inO h⟩
instance st_wp_mulL {e : Env} {s : Stt} {R : Pr} {QL : Pq (List PV)} {da db : Cd PV} : Stp (Wp (dMulL da db e s) QL R) (Wp (da e s) (fun p e s => Wp (db e s) (fun q e s => ∃ xs k, p = .lst xs ∧ q = .int k ∧ (k < 1048576 ∧ -1048576 < k ∧ xs.length * k.toNat ≤ sizeLine) ∧ QL (List.replicate k.toNat xs).flatten e s) R) R) := ⟨fun h => wp_mulL h⟩
instance st_wp_catL {e : Env} {s : Stt} {R : Pr} {QL : Pq (List PV)} {da db : Cd PV} : Stp (Wp (dCatL da db e s) QL R) (Wp (da e s) (fun p e s => Wp (db e s) (fun q e s => ∃ xs ys, p = .lst xs ∧ q = .lst ys ∧ xs.length + ys.length ≤ sizeLine ∧ QL (xs ++ ys) e s) R) R) := ⟨fun h => wp_catL h⟩
instance st_wp_cutL {e : Env} {s : Stt} {R : Pr} {QL : Pq (List PV)} {d : Cd PV} {l h' : Cd (Option Int)} : Stp (Wp (dCutL d l h' e s) QL R) (Wp (d e s) (fun p e s => Wp (l e s) (fun l e s => Wp (h' e s) (fun u e s => ∃ xs, p = .lst xs ∧ QL (cutP xs l u) e s) R) R) R) := ⟨fun h => wp_cutL h⟩
instance st_wp_rngL {e : Env} {s : Stt} {R : Pr} {QL : Pq (List PV)} {d : Cd (List PV)} : Stp (Wp (dRngL d e s) QL R) (Wp (d e s) (fun ps e s => ∃ j, ps = [.int j] ∧ (okR j = true ∧ j ≤ 16777216) ∧ QL ((List.range j.toNat).map fun (i : Nat) => PV.int i) e s) R) := ⟨fun h => wp_rngL h⟩
instance st_wp_ownNil {e : Env} {s : Stt} {R : Pr} {QS : Pq Flw} {i : Nat} {j : Nat} {d : Cd (List PV)} : Stp (Wp (dOwnNil i j d e s) QS R) (Wp (d e s) (fun xs e s => QS .next ((e.set i (.own xs)).set j (.own [])) s) R) := ⟨fun h => wp_ownNil h⟩
instance st_wp_setNil {e : Env} {s : Stt} {R : Pr} {QS : Pq Flw} {i : Nat} {j : Nat} {d : Cd PV} : Stp (Wp (dSetNil i j d e s) QS R) (Wp (d e s) (fun p e s => QS .next ((e.set i (.val p)).set j (.own [])) s) R) := ⟨fun h => wp_setNil h⟩
instance st_wp_zipM {e : Env} {s : Stt} {R : Pr} {d : Cd (List PV)} {Q : Pq (List PV)} : Stp (Wp (dZipM d e s) Q R) (Wp (d e s) (fun ps e s => ∃ xs, zipM ps = some xs ∧ Q xs e s) R) := ⟨fun h => wp_zipM h⟩
instance st_wp_enum {e : Env} {s : Stt} {R : Pr} {d : Cd (List PV)} {Q : Pq (List PV)} : Stp (Wp (dEnum d e s) Q R) (Wp (d e s) (fun ps e s => ∃ xs, enumP ps = some xs ∧ Q xs e s) R) := ⟨fun h => wp_enum h⟩
instance st_wp_par3 {e : Env} {s : Stt} {R : Pr} {QS : Pq Flw} {i j l : Nat} {d : Cd (List PV)} : Stp (Wp (dPar3 i j l d e s) QS R) (Wp (d e s) (fun ps e s => ∃ p q r, ps = [p, q, r] ∧ QS .next (((e.set i (.val p)).set j (.val q)).set l (.val r)) s) R) := ⟨fun h => wp_par3 h⟩
instance st_wp_rng3 {e : Env} {s : Stt} {R : Pr} {d : Cd (List PV)} {Q : Pq (List PV)} : Stp (Wp (dRng3 d e s) Q R) (Wp (d e s) (fun ps e s => ∃ xs, rng3 ps = some xs ∧ Q xs e s) R) := ⟨fun h => wp_rng3 h⟩
instance st_wp_ownSet {e : Env} {s : Stt} {R : Pr} {QS : Pq Flw} {i : Nat} {j : Nat} {da : Cd (List PV)} {db : Cd PV} : Stp (Wp (dOwnSet i j da db e s) QS R) (Wp (da e s) (fun xs e s => Wp (db e s) (fun q e s => QS .next ((e.set i (.own xs)).set j (.val q)) s) (fun _ _ _ _ => False)) R) := ⟨fun h => wp_ownSet h⟩
instance st_wp_setOwnNil {e : Env} {s : Stt} {R : Pr} {QS : Pq Flw} {i : Nat} {j : Nat} {l : Nat} {da : Cd PV} {db : Cd (List PV)} : Stp (Wp (dSetOwnNil i j l da db e s) QS R) (Wp (da e s) (fun p e s => Wp (db e s) (fun xs e s => QS .next (((e.set i (.val p)).set j (.own xs)).set l (.own [])) s) R) R) := ⟨fun h => wp_setOwnNil h⟩
instance st_wp_count {e : Env} {s : Stt} {R : Pr} {Q : Pq PV} {da : Cd PV} {db : Cd (List PV)} : Stp (Wp (dCount da db e s) Q R) (Wp (da e s) (fun p e s => ∃ xs ns, p = .tup xs ∧ intsOf xs = some ns ∧ Wp (db e s) (fun qs e s => ∃ i, qs = [.int i] ∧ Q (.int (ns.count i : Nat)) e s) R) R) := ⟨fun h => wp_count h⟩
instance st_wp_sumG {e : Env} {s : Stt} {R : Pr} {Q : Pq PV} {d : Cd (List PV)} {q : Env → PV → Option PV} : Stp (Wp (dSumG d q e s) Q R) (Wp (d e s) (fun ps e s => ∃ rs ns, qMap q e ps = some rs ∧ intsOf rs = some ns ∧ few ns = true ∧ Q (.int ns.sum) e s) R) := ⟨fun h => wp_sumG h⟩
instance st_wp_allG {e : Env} {s : Stt} {R : Pr} {Q : Pq PV} {d : Cd (List PV)} {q : Env → PV → Option PV} : Stp (Wp (dAllG d q e s) Q R) (Wp (d e s) (fun ps e s => ∃ rs bs, qMap q e ps = some rs ∧ blsOf rs = some bs ∧ Q (.bl (bs.all id)) e s) R) := ⟨fun h => wp_allG h⟩
instance st_x_add {s : Stt} {Q : PV → Prop} {a : Int} {b : Int} : Stp (∃ w, pAdd s (.int a) (.int b) = some w ∧ Q w) (Q (.int (a + b))) := ⟨fun h => FS.x_add h⟩
instance st_x_sub {s : Stt} {Q : PV → Prop} {a : Int} {b : Int} : Stp (∃ w, pSub s (.int a) (.int b) = some w ∧ Q w) (Q (.int (a - b))) := ⟨fun h => FS.x_sub h⟩
instance st_x_lt {s : Stt} {Q : PV → Prop} {a : Int} {b : Int} : Stp (∃ w, pLt s (.int a) (.int b) = some w ∧ Q w) (Q (.bl (decide (a < b)))) := ⟨fun h => FS.x_lt h⟩
instance st_x_le {s : Stt} {Q : PV → Prop} {a : Int} {b : Int} : Stp (∃ w, pLe s (.int a) (.int b) = some w ∧ Q w) (Q (.bl (decide (a ≤ b)))) := ⟨fun h => FS.x_le h⟩
instance st_x_gt {s : Stt} {Q : PV → Prop} {a : Int} {b : Int} : Stp (∃ w, pGt s (.int a) (.int b) = some w ∧ Q w) (Q (.bl (decide (b < a)))) := ⟨fun h => FS.x_gt h⟩
instance st_x_ge {s : Stt} {Q : PV → Prop} {a : Int} {b : Int} : Stp (∃ w, pGe s (.int a) (.int b) = some w ∧ Q w) (Q (.bl (decide (b ≤ a)))) := ⟨fun h => FS.x_ge h⟩
instance st_x_eq {s : Stt} {Q : PV → Prop} {a : Int} {b : Int} : Stp (∃ w, pEq s (.int a) (.int b) = some w ∧ Q w) (Q (.bl (decide (a = b)))) := ⟨fun h => FS.x_eq h⟩
instance st_x_ne {s : Stt} {Q : PV → Prop} {a : Int} {b : Int} : Stp (∃ w, pNe s (.int a) (.int b) = some w ∧ Q w) (Q (.bl (!decide (a = b)))) := ⟨fun h => FS.x_ne h⟩
instance st_x_neg {Q : PV → Prop} {a : Int} : Stp (∃ w, pNeg (.int a) = some w ∧ Q w) (Q (.int (-a))) := ⟨fun h => FS.x_neg h⟩
instance st_x_bl {k : Bool} {Q : Bool → Prop} : Stp (∃ b, asB (.bl k) = some b ∧ Q b) (Q k) := ⟨fun h => FS.x_bl h⟩
instance st_x_truB {s : Stt} {k : Bool} {Q : Bool → Prop} : Stp (∃ b, tru s (.bl k) = some b ∧ Q b) (Q k) := ⟨fun h => FS.x_truB h⟩
instance st_wp_sqr {K : Env → Stt → Prop} {Q : Pq Flw} {p : PV} {e : Env} {s : Stt} : Stp (SQ K Q (.ret p) e s) (Q (.ret p) e s) := ⟨fun h => FS.wp_sqr h⟩
instance st_wp_lq {I : Env → Stt → Prop} {Q : Pq Flw} {e : Env} {s : Stt} : Stp (LQ I Q .next e s) (I e s) := ⟨fun h => FS.wp_lq h⟩
instance st_wp_lqr {I : Env → Stt → Prop} {Q : Pq Flw} {p : PV} {e : Env} {s : Stt} : Stp (LQ I Q (.ret p) e s) (Q (.ret p) e s) := ⟨fun h => FS.wp_lqr h⟩
instance st_wp_fqn {Q : PV → Stt → Prop} {e : Env} {s : Stt} : Stp (FQ Q .next e s) (Q .non s) := ⟨fun h => FS.wp_fqn h⟩
instance st_wp_fqr {Q : PV → Stt → Prop} {p : PV} {e : Env} {s : Stt} : Stp (FQ Q (.ret p) e s) (Q p s) := ⟨fun h => FS.wp_fqr h⟩
instance st_x_rev {xs : List PV} {Q : PV → Prop} : Stp (∃ w, pRev (.tup xs) = some w ∧ Q w) (Q (.tup xs.reverse)) := ⟨fun h => FS.x_rev h⟩
instance st_x_revL {xs : List PV} {Q : PV → Prop} : Stp (∃ w, pRev (.lst xs) = some w ∧ Q w) (Q (.lst xs.reverse)) := ⟨fun h => FS.x_revL h⟩
instance st_x_par3 {p q r : PV} {Q : PV → PV → PV → Prop} : Stp (∃ p' q' r', [p, q, r] = [p', q', r'] ∧ Q p' q' r') (Q p q r) := ⟨fun h => FS.x_par3 h⟩
end I
end FS
set_option Elab.async false
set_option linter.all false
set_option maxRecDepth 100000
/-! FsNum: primes, ways to choose, the coefficients of shifted polynomials. -/
namespace FS
/-- prime, up to the program's greatest -/
def prm (n : Int) : Prop := 2 ≤ n ∧ n ≤ 65521 ∧ ∀ k, 2 ≤ k → k * k ≤ n → n % k ≠ 0
open Classical in
noncomputable def isP : PV → Bool
  | .int n => decide (prm n)
  | _ => false
def Th (p : PV) : Prop := (∃ n, p = .int n) ∨ (∃ b, p = .bl b) ∨ p = .non ∨ (∃ x, p = .str x) ∨ ∃ xs, p = .tup xs
def isW (lo hi : Int) : PV → Bool
  | .int n => decide (lo ≤ n) && decide (n ≤ hi)
  | _ => false
theorem sq_le {a b : Int} (h0 : 0 ≤ a) (h : a ≤ b) : a * a ≤ b * b := Int.mul_le_mul h h h0 (Int.le_trans h0 h)
theorem sq_ge {d : Int} (h : 2 ≤ d) : d + 1 ≤ d * d := by
  have := Int.mul_le_mul_of_nonneg_right h (Int.le_trans (by decide) h)
  omega
theorem prm_of {n : Int} (h : 2 ≤ n ∧ n ≤ 65521) (hd : ∀ k : Nat, k < 256 → 2 ≤ k → k * k ≤ n.toNat → n.toNat % k ≠ 0) : prm n := by
  refine ⟨h.1, h.2, fun k h1 h2 h3 => ?_⟩
  have hk : k < 256 := by
    rcases Int.lt_or_le k 256 with q | q
    · exact q
    · have := sq_le (by decide) q
      omega
  have e1 : ((k.toNat : Nat) : Int) = k := Int.toNat_of_nonneg (by omega)
  have e2 : ((n.toNat : Nat) : Int) = n := Int.toNat_of_nonneg (by omega)
  refine hd k.toNat (by omega) (by omega) ?_ ?_
  · rw [← e1, ← e2] at h2
    exact_mod_cast h2
  · rw [← e1, ← e2] at h3
    exact_mod_cast h3
def ch : Nat → Nat → Nat
  | _, 0 => 1
  | 0, _ + 1 => 0
  | n + 1, k + 1 => ch n k + ch n (k + 1)
theorem ch_zero : ∀ (n k : Nat), n < k → ch n k = 0
  | 0, k + 1, _ => rfl
  | n + 1, k + 1, h => by
    show ch n k + ch n (k + 1) = 0
    rw [ch_zero n k (by omega), ch_zero n (k + 1) (by omega)]
theorem ch_0 (n : Nat) : ch n 0 = 1 := by cases n <;> rfl
/-! ### coefficients of f(x + y) in y -/
def T : List Int → Int → Nat → Int
  | [], _, _ => 0
  | a :: f, x, 0 => a + x * T f x 0
  | _ :: f, x, j + 1 => T f x j + x * T f x (j + 1)
theorem T_nil (x : Int) (j : Nat) : T [] x j = 0 := by cases j <;> rfl
theorem T_zero : ∀ (f : List Int) (x : Int) (j : Nat), f.length ≤ j → T f x j = 0
  | [], x, j, _ => T_nil x j
  | a :: f, x, 0, h => by simp at h
  | a :: f, x, j + 1, h => by
    have h' : f.length ≤ j := by simpa using h
    show T f x j + x * T f x (j + 1) = 0
    rw [T_zero f x j h', T_zero f x (j + 1) (by omega)]
    simp
/-- the same by single terms -/
def Sm (x : Int) (j : Nat) : List Int → Nat → Int
  | [], _ => 0
  | a :: f, n => a * ((ch n j : Nat) : Int) * x ^ (n - j) + Sm x j f (n + 1)
theorem Sm_next (x : Int) (j : Nat) : ∀ (f : List Int) (n : Nat), Sm x (j + 1) f (n + 1) = Sm x j f n + x * Sm x (j + 1) f n
  | [], n => by simp [Sm]
  | a :: f, n => by
    have ih := Sm_next x j f (n + 1)
    have hc : ch (n + 1) (j + 1) = ch n j + ch n (j + 1) := rfl
    have e1 : n + 1 - (j + 1) = n - j := by omega
    show a * ((ch (n + 1) (j + 1) : Nat) : Int) * x ^ (n + 1 - (j + 1)) + Sm x (j + 1) f (n + 1 + 1) = (a * ((ch n j : Nat) : Int) * x ^ (n - j) + Sm x j f (n + 1)) + x * (a * ((ch n (j + 1) : Nat) : Int) * x ^ (n - (j + 1)) + Sm x (j + 1) f (n + 1))
    rw [ih, hc, e1]
    by_cases h : j + 1 ≤ n
    · have e2 : n - j = (n - (j + 1)) + 1 := by omega
      rw [e2, Int.pow_succ]
      push_cast
      grind
    · have e3 : ch n (j + 1) = 0 := ch_zero _ _ (by omega)
      rw [e3]
      push_cast
      grind
theorem Sm_zero (x : Int) : ∀ (f : List Int) (n : Nat), Sm x 0 f (n + 1) = x * Sm x 0 f n
  | [], n => by simp [Sm]
  | a :: f, n => by
    have ih := Sm_zero x f (n + 1)
    show a * ((ch (n + 1) 0 : Nat) : Int) * x ^ (n + 1 - 0) + Sm x 0 f (n + 1 + 1) = x * (a * ((ch n 0 : Nat) : Int) * x ^ (n - 0) + Sm x 0 f (n + 1))
    rw [ih, ch_0, ch_0, Nat.sub_zero, Nat.sub_zero, Int.pow_succ]
    grind
theorem Sm_T (x : Int) : ∀ (f : List Int) (j : Nat), Sm x j f 0 = T f x j
  | [], j => by rw [T_nil]; rfl
  | a :: f, 0 => by
    show a * ((ch 0 0 : Nat) : Int) * x ^ 0 + Sm x 0 f 1 = a + x * T f x 0
    rw [Sm_zero, Sm_T x f 0]
    have : ch 0 0 = 1 := rfl
    rw [this]
    simp
  | a :: f, j + 1 => by
    show a * ((ch 0 (j + 1) : Nat) : Int) * x ^ (0 - (j + 1)) + Sm x (j + 1) f 1 = T f x j + x * T f x (j + 1)
    rw [Sm_next, Sm_T x f j, Sm_T x f (j + 1)]
    have : ch 0 (j + 1) = 0 := rfl
    rw [this]
    simp
/-! ### remainders -/
theorem mod_add {p a b c d : Int} (h1 : a % p = b % p) (h2 : c % p = d % p) : (a + c) % p = (b + d) % p := by rw [Int.add_emod, h1, h2, ← Int.add_emod]
theorem mod_mul {p a b c d : Int} (h1 : a % p = b % p) (h2 : c % p = d % p) : (a * c) % p = (b * d) % p := by rw [Int.mul_emod, h1, h2, ← Int.mul_emod]
theorem mod_mod (a p : Int) : a % p % p = a % p := Int.emod_emod_of_dvd a (Int.dvd_refl p)
/-- lists alike but for multiples of p -/
def Lk (p : Int) (f g : List Int) : Prop := f.length = g.length ∧ ∀ (i : Nat) (a b : Int), f[i]? = some a → g[i]? = some b → a % p = b % p
theorem Lk.tail {p a b : Int} {f g : List Int} (h : Lk p (a :: f) (b :: g)) : a % p = b % p ∧ Lk p f g := ⟨h.2 0 a b rfl rfl, by simpa using h.1, fun i c d h1 h2 => h.2 (i + 1) c d (by simpa using h1) (by simpa using h2)⟩
theorem T_mod {p x y : Int} (hx : x % p = y % p) : ∀ (f g : List Int) (j : Nat), Lk p f g → T f x j % p = T g y j % p
  | [], [], j, _ => by rw [T_nil, T_nil]
  | [], b :: g, j, h => absurd h.1 (by simp)
  | a :: f, [], j, h => absurd h.1 (by simp)
  | a :: f, b :: g, 0, h => mod_add h.tail.1 (mod_mul hx (T_mod hx f g 0 h.tail.2))
  | a :: f, b :: g, j + 1, h => mod_add (T_mod hx f g j h.tail.2) (mod_mul hx (T_mod hx f g (j + 1) h.tail.2))
/-- what a shelf's cell holds -/
def cl (p : Int) (f : List Int) (x : Int) (j : Nat) : Int := if x = p then f.reverse.getD j 0 else T f x j % p
end FS
set_option Elab.async false
set_option linter.all false
set_option maxRecDepth 100000
/-! FsTupR: tuple(range(n)). -/
namespace L2
open PySem PySem.Spec PyProof.Rows HT
section
variable {X : Cx} {e : Expr} {te : St → Hp → (Int → Int → Hp → Prop) → Prop}
def tTupRgN (te : St → Hp → (Int → Int → Hp → Prop) → Prop) : TE := fun σ H Q => te σ H fun a b H1 => RgOk a b ∧ ∀ q o, H1 q = none → o.dict = none → Q (.ref q) (upd H1 q (.frz o (.tup (rgV a b))))
theorem pe_tupRgN {p pos : Pos} (hc : X.calm = true) (hg : Gl X "tuple") (hm : X.mg "tuple" = none) (he : PRg X e te) (na : starEach [e] X.env = (false, eval e X.env) :: starEach [] X.env := by rfl) : PE X (.Call (.Name "tuple" p) [e] [] pos) (tTupRgN te) := by
  refine ⟨fun pins s σ H Q I h => ?_⟩
  refine Call_ (ld_blt I hg hm boot_tuple (PyProof.Rows.callWith_type1 (args_cons (thn (he pins s σ H _ I h) fun x s1 ⟨r, a, b, t, u, v, H1, ex, hr, I1, ok, q⟩ => args_nil ?_) na) na))
  subst ex
  obtain ⟨b1, b2, b3, b4, b5⟩ := ok
  refine call_tuple_range (n := (b - a).toNat) (I1.ok.hd hc) hr (small_one b1 b2 b3 b4) (rangeSize_nat a b) b5 fun h' tk acc hk hi => ?_
  have I2 : Inv X pins σ H1 { s1 with heap := h', toks := tk } := I1.kept hk
  have hz : (rgV a b).length ≤ sizeLine := by rw [rgV_length, sizeLine_eq]; omega
  refine ⟨.ref h'.objs.size, _, I2.laid (t' := tk) (o := .frz { cls := .type "tuple", data := .seq acc } (.tup (rgV a b))) (fun c o e => Heap.get?_push_of_some _ e) (Nat.le_refl _) (objN hz (vals_rg hi) (Heap.get?_push_size _ rfl) rfl ⟨_, by rw [Array.toArray_toList]⟩), rfl, q _ _ (I2.hok.fresh (Nat.le_refl _)) rfl⟩
end
end L2
namespace FS
open PySem PySem.Spec L2
section
variable {X : Cx} {z : Zx} {a : Expr} {p p1 p2 pos : Pos}
/-- tuple(range(n)) -/
def dTupR (d : Cd PV) : Cd PV := bnd d fun v => match v with
  | .int j => if okR j = true ∧ j ≤ 16777216 then ret (.tup ((List.range j.toNat).map fun (i : Nat) => PV.int i)) else fun _ _ => .bad
  | _ => fun _ _ => .bad
theorem me_tupR {d : Cd PV} (ha : ME X z a d) (hl : X.mg "tuple" = none) (hrg : X.mg "range" = none) (hc : X.calm = true := by rfl) (hg : Gl X "tuple" := by rfl) (hg2 : Gl X "range" := by rfl) (na : starEach [a] X.env = (false, eval a X.env) :: starEach [] X.env := by rfl)
    (na2 : starEach [.Call (.Name "range" p1) [a] [] p2] X.env = (false, eval (.Call (.Name "range" p1) [a] [] p2) X.env) :: starEach [] X.env := by rfl) : ME X z (.Call (.Name "tuple" p) [.Call (.Name "range" p1) [a] [] p2] [] pos) (dTupR d) := by
  refine PE.imp (pe_tupRgN hc hg hl (prg_1 hg2 hrg ha na) na2) fun σ H Q ⟨G, env, S, e, A, P⟩ => ?_
  subst e
  refine toE lwE A P fun v env1 S1 x G1 m1 A1 r1 P1 => ?_
  cases v with
  | int j =>
    simp only at P1
    split at P1
    · rename_i hc
      cases r1
      obtain ⟨h1, h2⟩ := okR_b hc.1
      refine ⟨j, rfl, ⟨by decide, by decide, h1, h2, by omega⟩, fun l o hn ho => ?_⟩
      have M : Mon G1 (G1.frozen l (.frz o (.tup (rgV 0 j)))) := (Ext.frozen hn).mon A1.sure
      have rr := rgV_rep (K := z.K) (G := G1) 0 j
      have e1 : ((List.range (j - 0).toNat).map fun (k : Nat) => PV.int (0 + k)) = (List.range j.toNat).map fun (i : Nat) => PV.int i := by simp
      rw [e1] at rr
      exact P1 _ _ M (A1.frozen hn) (.tup (.inl ⟨.inr rfl, o, ho, upd_same⟩) (rr.mon M))
    · exact P1.elim
  | _ => exact P1.elim
end
end FS
set_option Elab.async false
set_option linter.all false
set_option maxRecDepth 100000
set_option maxHeartbeats 4000000
/-! FsSet: sorted(set(xs)), xs a list or tuple of ints, fewer than 64. -/
namespace FS
open PySem PySem.Spec PyProof.Rows L2
/-- a set just made -/
abbrev bareS (w : World) : Obj := { cls := .type "set", dict := none, data := .set #[] 0 (.fresh 0 0 (!w.params.followText "set-order")) }
section
variable {P : Program} {w : World} {A : Around} {E : Value → Shared → Prop} {s : Shared}
theorem call_set_lstI {l : Addr} {its : Array Value} (ns : List Int) {Q : Value → Shared → Prop} (hA : A.handled = none) (hL : s.heap.IsList l its) (hI : IntsAre its.toList ns) (hB : ns.length + 1 < scanBound)
    (h : ∀ (h' : Heap) (tk c : Nat), SetR w h' s.heap.objs.size (fun j => decide (j ∈ ns)) c → c ≤ ns.length → (∀ b o, s.heap.get? b = some o → h'.get? b = some o) → Q (.ref s.heap.objs.size) { s with heap := h', toks := tk }) :
    wpAny (model P w) A (call (.type "set") [.ref l]) Q E s := by
  have zl : its.size = ns.length := by
    have z := IntsAre.length hI
    rwa [Array.length_toList] at z
  obtain ⟨c, tl, hmro⟩ := F.called_set.mro; have hmade := F.called_set.made; have hsub := F.called_set.sub
  refine wpAny_call (codeAny_of_tree ?_); show wpAny _ _ (callAny (.type "set") _) _ _ _
  refine wpAny_pure ⟨Code.quiet_builtin _ (by decide +kernel), codeAny_builtin F.entry_type_call ?_⟩; rw [Around.under_plain (weight_type_call_type "set" [.ref l] []) rfl]
  have h1 := F.called_set.notType; have h2 := F.called_set.canCreate; have hct := F.typeCall_set_1 (.ref l)
  repeat any_goals first | assumption | wp_step
  refine codeAny_mono (code_set_led1 (.ref l) (E := E) (Q₁ := fun o t => o = .ref s.heap.objs.size ∧ t = { s with heap := s.heap.push (bareS w) }) ⟨rfl, rfl⟩) fun r s₁ hr => ?_
  cases r with
  | error e => exact hr
  | ok fl =>
    cases fl with
    | ret obj =>
      obtain ⟨rfl, rfl⟩ := hr
      have hS : (s.heap.push (bareS w)).get? s.heap.objs.size = some (bareS w) := Heap.get?_push_size _ rfl
      have hT : Shared.TypeIs { s with heap := s.heap.push (bareS w) } (.ref s.heap.objs.size) "set" := ⟨_, hS, rfl⟩
      have hli := F.called_set.init.lookup; have hbi := F.called_set.init.bind (.ref s.heap.objs.size)
      repeat any_goals first | assumption | wp_step
      refine codeAny_mono (codeAny_call_builtin (R := wants (fun r t => r = .none ∧ ∃ h' tk c, t = { s with heap := h', toks := tk } ∧ SetR w h' s.heap.objs.size (fun j => decide (j ∈ ns)) c ∧ c ≤ ns.length ∧ ∀ b o, s.heap.get? b = some o → h'.get? b = some o) E) F.called_set.init.plain F.entry_set_init (check_set_init_1 hT ?_)) fun r₂ s₂ hr₂ => ?_
      · obtain ⟨ol, hol, hcl, nl, hdl⟩ := hL
        obtain ⟨c1, d1, x1, s1⟩ := ol
        simp only at hcl hdl; subst hcl; subst hdl
        have hol' : (s.heap.push (bareS w)).get? l = some { cls := .type "list", dict := d1, data := .seq its nl, slots := s1 } := Heap.get?_push_of_some _ hol
        have hsls := F.sub_list_set; have hslf := F.sub_list_frozenset
        have hne : (Value.type "list" == Value.type "dict") = false := by decide
        have hl1 : (s.heap.push (bareS w)).IsList l its := ⟨_, hol', rfl, nl, rfl⟩
        unfold Builtin.«set.__init__» noKeywords Builtin.Frozenset.updateFrom; generalize hPI : pyIter = PI
        wp_walk
        subst hPI
        refine wpAny_pyIter_list hl1 ?_; refine wpAny_bind (wpAny_runValue ?_)
        have hlS : l < s.heap.objs.size := Heap.lt_size hol
        have hh3 : A.in1.in1.in1.handled = none := by simp [hA]
        have hz : (s.heap.push (bareS w)).objs.size = s.heap.objs.size + 1 := Heap.size_push ..
        have hnI : l ≠ (s.heap.push (bareS w)).objs.size := by rw [hz]; exact Nat.ne_of_lt (Nat.lt_succ_of_lt hlS)
        have hSf : s.heap.objs.size ∉ [(s.heap.push (bareS w)).objs.size, l] := by
          rw [hz]; simp only [List.mem_cons, List.not_mem_nil, or_false, not_or]; exact ⟨Nat.ne_of_lt (Nat.lt_succ_self _), Nat.ne_of_gt hlS⟩
        have hval : ∀ (i : Nat) (v : Value), its[i]? = some v → ∃ k t, ns[i]? = some k ∧ v = .int k t := fun i v hv => by
          have hi : i < ns.length := by rw [← zl]; exact (Array.getElem?_eq_some_iff.mp hv).1
          obtain ⟨t, e⟩ := PyProof.Rows.IntsAre.int_at hI i v (by rw [Array.getElem?_toList]; exact hv)
          exact ⟨ns[i], t, List.getElem?_eq_getElem hi, by rw [e, List.getD_eq_getElem?_getD, List.getElem?_eq_getElem hi] <;> rfl⟩
        refine set_update_ints ((Walks.list hh3 _ l hnI its).toS) s.heap.objs.size hSf ns zl hB hval (its.size - 0) 0 _ (by omega) (Nat.zero_le _) ⟨⟨_, Heap.get?_push_size _ rfl, rfl, rfl⟩, (hl1.push _)⟩ ?hS0 ?hR
        case hS0 => exact ⟨0, Nat.le_refl 0, setR_new_at (Heap.get?_push_of_some _ hS)⟩
        case hR =>
          intro t c' hm hc' hS'
          obtain ⟨h', g2, d', tk', os'⟩ := t
          have eg : g2 = s.gens := hm.gens; have ed : d' = s.drawn := hm.drawn; have eo : os' = s.os := hm.os
          subst eg ed eo
          show wpAny _ _ _ _ _ _; refine wpAny_pure ?_
          show wpAny _ _ (PySem.ret Value.none) _ _ _; rw [zl] at hc'
          refine wpAny_pure ⟨rfl, h', tk', c', rfl, hS', hc', fun b o e => ?_⟩
          have hb0 : b < s.heap.objs.size := Heap.lt_size e
          exact hm.heap b o (by rw [hz]; simp only [List.mem_cons, List.not_mem_nil, or_false, not_or]; exact ⟨Nat.ne_of_lt hb0, Nat.ne_of_lt (Nat.lt_succ_of_lt hb0)⟩) (Heap.get?_push_of_some _ (Heap.get?_push_of_some _ e))
      · cases r₂ with
        | error e => exact hr₂
        | ok fl₂ =>
          cases fl₂ with
          | ret r =>
            obtain ⟨rfl, h', tk, c, rfl, hS', hc', hk'⟩ := hr₂
            repeat any_goals first | assumption | wp_step
            exact h _ _ _ hS' hc' hk'
          | _ => exact hr₂.elim
    | _ => exact hr.elim
end
/-- set(xs) of ints -/
def rSetI (K : PySem.W.Frag) (w : World) : List V → Hp → VK → Prop := fun vs H Q => ∃ (a : Addr) (ns : List Int), vs = [V.ref a] ∧ (SqL K H a (ns.map V.int) ∨ SqT K H a (ns.map V.int)) ∧ ns.length < 64 ∧ ∀ (p : Addr) (c : Nat), H p = none → c ≤ ns.length → Q (.ref p) (upd H p (SetO w p (fun j => decide (j ∈ ns)) c))
section
variable {X : Cx} {z : Zx} {pos p p2 q : Pos}
theorem cr_setI (hc : X.calm = true) : CallR X (.type "set") (rSetI X.K X.w) := by
  intro pins s σ H vs us Q I r h
  obtain ⟨a, ns, rfl, hs, h64, k⟩ := h
  rw [Vals.ref1 r]
  have fin : ∀ (h' : Heap) (tk c : Nat), SetR X.w h' s.heap.objs.size (fun j => decide (j ∈ ns)) c → c ≤ ns.length → (∀ b o, s.heap.get? b = some o → h'.get? b = some o) → EP X pins σ Q (.ref s.heap.objs.size) { s with heap := h', toks := tk } := fun h' tk c hR hle hk =>
    ⟨.ref _, upd H s.heap.objs.size (SetO X.w s.heap.objs.size (fun j => decide (j ∈ ns)) c), I.laid (t' := tk) hk (Nat.le_refl _) (setO_new hR), rfl, k _ c (I.hok.fresh (Nat.le_refl _)) hle⟩
  have hB : ns.length + 1 < scanBound := by
    have : (64 : Nat) < scanBound := by decide
    omega
  rcases hs with hs | hs
  · obtain ⟨its, rv, pl, hz⟩ := I.list hs
    exact call_set_lstI ns (I.ok.hd hc) pl.isList (by simpa using ints_of_vals rv) hB fin
  · obtain ⟨its, rv, pl, hz⟩ := I.tuple hs
    exact call_set_tupI ns (I.ok.hd hc) pl (by simpa using ints_of_vals rv) hB fin
/-- sorted(set(xs)) of ints, fewer than 64: a new list -/
def dSrtSet (d : Cd PV) : Cd (List PV) := bnd d fun p => fun e s => match (seqF p).bind intsOf with
  | some ns => if ns.length < 64 then .ok ((srtI ns).map PV.int) e s else .bad
  | none => .bad
theorem mf_srtSet {a : Expr} {d : Cd PV} (hm : X.mg "sorted" = none) (hm2 : X.mg "set" = none) (hc : X.calm = true) (ha : ME X z a d) (hK : z.K = X.K := by rfl) (hg : Gl X "sorted" := by rfl) (hg2 : Gl X "set" := by rfl)
    (he : starEach [a] X.env = (false, eval a X.env) :: starEach [] X.env := by rfl) (he2 : starEach [Expr.Call (.Name "set" p2) [a] [] q] X.env = (false, eval (Expr.Call (.Name "set" p2) [a] [] q) X.env) :: starEach [] X.env := by rfl) : MF X z (.Call (.Name "sorted" p) [.Call (.Name "set" p2) [a] [] q] [] pos) (dSrtSet d) := by
  have h1 := pe_callTy (p := p2) (pos := q) (x := "set") (cr_setI hc) hg2 hm2 (by decide +kernel) (pa_cons ha pa_nil he) (by decide) (by decide) he rfl
  refine (pe_callB (p := p) (pos := pos) (x := "sorted") (cr_sortedSet hc) hg hm (by decide +kernel) (pa_cons h1 pa_nil he2) (by decide) (by decide) he2 rfl).imp fun σ H Q ⟨G, env, S, e, A, P⟩ => ?_
  subst e
  refine toE lwF A P fun pv env1 S1 v G1 m1 A1 r1 P1 => ?_
  have P1 : PostF z G1 σ Q (match (seqF pv).bind intsOf with
      | some ns => if ns.length < 64 then .ok ((srtI ns).map PV.int) env1 S1 else .bad
      | none => .bad) := P1
  have go : ∀ (xs : List PV) (ns : List Int) (a : Addr) (vs : List V), seqF pv = some xs → intsOf xs = some ns → ns.length < 64 → RepL z.K G1 xs vs → (SqL X.K G1.H a vs ∨ SqT X.K G1.H a vs) → v = .ref a → rSetI X.K X.w [v] G1.H fun v2 H2 => rSortedSet X.w [v2] H2 Q := fun xs ns a vs e1 e2 h64 rr hs ev => by
    rw [e1, Option.bind_some, e2] at P1
    have P2 : PostF z G1 σ Q (.ok ((srtI ns).map PV.int) env1 S1) := by simpa only [if_pos h64] using P1
    have e9 := intsOf_rep e2 rr
    subst e9 ev
    refine ⟨a, ns, rfl, hs, h64, fun p c hp hle => ⟨p, _, c, rfl, upd_same, by omega, fun ns' p' k1 k2 k3 hp' => ?_⟩⟩
    have e9 : ns' = srtI ns := ris_uniq k1 (srtI_all _).1 fun k => by rw [k2 k, (srtI_all _).2 k, decide_eq_true_eq]
    subst e9
    have A2 : At z.K z.G0 (G1.fresh p (SetO X.w p (fun j => decide (j ∈ ns)) c)) S1 env1 σ := A1.fresh hp
    have A3 : At z.K z.G0 ((G1.fresh p (SetO X.w p (fun j => decide (j ∈ ns)) c)).fresh p' (.lst ((srtI ns).map V.int))) S1 env1 σ := A2.fresh hp'
    have al := A2.alone (vs := (srtI ns).map V.int) hp'
    exact P2 p' _ _ (((Ext.fresh hp).mon A1.sure).trans ((Ext.fresh hp').mon A2.sure)) A3 (RepL.ints _) al.at_ al.nf al.nm al.n0 al.no
  have bad : seqF pv = none → rSetI X.K X.w [v] G1.H fun v2 H2 => rSortedSet X.w [v2] H2 Q := fun e1 => by
    rw [e1] at P1
    exact P1.elim
  have bad2 : ∀ xs, seqF pv = some xs → intsOf xs = none → rSetI X.K X.w [v] G1.H fun v2 H2 => rSortedSet X.w [v2] H2 Q := fun xs e1 e2 => by
    rw [e1, Option.bind_some, e2] at P1
    exact P1.elim
  have bad3 : ∀ xs ns, seqF pv = some xs → intsOf xs = some ns → ¬ ns.length < 64 → rSetI X.K X.w [v] G1.H fun v2 H2 => rSortedSet X.w [v2] H2 Q := fun xs ns e1 e2 h => by
    rw [e1, Option.bind_some, e2] at P1
    simp only [if_neg h] at P1
    exact P1.elim
  show rSetI X.K X.w [v] G1.H fun v2 H2 => rSortedSet X.w [v2] H2 Q
  cases e1 : seqF pv with
  | none => exact bad e1
  | some xs =>
    cases e2 : intsOf xs with
    | none => exact bad2 xs e1 e2
    | some ns =>
      by_cases h64 : ns.length < 64
      · cases pv with
        | tup ys =>
          cases e1
          obtain ⟨c, vs, rfl, hsq, rr⟩ := r1.sqT
          exact go _ ns c vs rfl e2 h64 rr (.inr (by rw [← hK]; exact hsq)) rfl
        | lst ys =>
          cases e1
          obtain ⟨c, vs, rfl, hsq, rr⟩ := r1.sqL
          exact go _ ns c vs rfl e2 h64 rr (.inl (by rw [← hK]; exact SqL.of hsq)) rfl
        | _ => cases e1
      · exact bad3 xs ns e1 e2 h64
end
end FS
set_option Elab.async false
set_option linter.all false
set_option maxRecDepth 100000
/-! FsCntL: count of a list of ints. -/
namespace FS
open PySem PySem.Spec PyProof.Rows L2
def dCountL (da : Cd PV) (db : Cd (List PV)) : Cd PV := bnd da fun p => match p with
  | .lst xs => match intsOf xs with
    | some ns => bnd db fun q => match q with
      | [.int i] => ret (.int (ns.count i : Nat))
      | _ => fun _ _ => .bad
    | none => fun _ _ => .bad
  | _ => fun _ _ => .bad
section
variable {X : Cx} {z : Zx} {a b : Expr} {da : Cd PV} {db : Cd (List PV)} {apos cpos : Pos} {k : Nat}
theorem me_countL (ha : ME X z a da) (hb : MA X z [b] db) (hK : z.K = X.K := by rfl) (hbase : attributeBase a "count" X.env (eval a X.env) = eval a X.env := by rfl)
    (hfew : ((backTo cpos (starEach [b] X.env)).all (fun x => !x.1) && (backToKw cpos (keywordEach [] X.env)).all (fun x => x.1.isSome)
      && decide ([b].length + ([] : List Keyword).length + (if ([] : List Keyword).isEmpty then 0 else 1) < 30)) = true := by rfl)
    (hline : (apos.endLine == cpos.line) = true := by rfl) (hs : starEach [b] X.env = (false, eval b X.env) :: starEach [] X.env := by rfl) (hplain : (backTo cpos (starEach [] X.env)).any (·.1) = false := by rfl) :
    ME X z (.Call (.Attribute a "count" apos) [b] [] cpos) (dCountL da db) := by
  refine (pe_bm PySem.F.plainAttrs_list PySem.F.slot_list_count PySem.F.type_list_count mt_lcount ha hb hbase hfew hline hs hplain).imp fun σ H Q ⟨G, env, S, e, A, P⟩ => ?_
  subst e
  refine toE lwE A P fun p env1 S1 x G1 m1 A1 r1 P1 => ?_
  rw [← hK]
  cases p with
  | lst xs =>
    cases hi : intsOf xs with
    | none => simp only [hi] at P1; exact P1.elim
    | some ns =>
      simp only [hi] at P1
      obtain ⟨c, vs, rfl, hsq, rr⟩ := r1.sqL
      have e := intsOf_rep hi rr
      subst e
      refine ⟨.inl ⟨rfl, _, SqL.of hsq⟩, ?_⟩
      refine toA lwE A1 P1 fun qs env2 S2 ws G2 m2 A2 r2 P2 => ?_
      match qs, r2, P2 with
      | [.int i], r2, P2 =>
        obtain ⟨u, rfl, ru⟩ := repL1 r2
        cases ru
        refine ⟨c, ns, i, rfl, rfl, ?_, P2 _ G2 (Mon.refl _) A2 (.int _)⟩
        obtain ⟨c2, vs2, e2, hsq2, rr2⟩ := (r1.mon m2).sqL
        cases e2
        have e3 := intsOf_rep hi rr2
        rw [e3] at hsq2
        exact SqL.of hsq2
      | [], _, P2 => exact P2.elim
      | p :: _ :: _, _, P2 => cases p <;> exact P2.elim
      | [.non], _, P2 => exact P2.elim
      | [.bl _], _, P2 => exact P2.elim
      | [.str _], _, P2 => exact P2.elim
      | [.tup _], _, P2 => exact P2.elim
      | [.tuz _], _, P2 => exact P2.elim
      | [.lst _], _, P2 => exact P2.elim
      | [.scr _], _, P2 => exact P2.elim
      | [.ref _], _, P2 => exact P2.elim
      | [.raw _], _, P2 => exact P2.elim
  | _ => exact P1.elim
end
end FS
set_option Elab.async false
set_option linter.all false
set_option maxRecDepth 100000
/-! FsTupW: the step over tuple(range(n)). -/
namespace FS
open PySem L2
section
variable {e : Env} {s : Stt} {R : Pr} {Q : Pq PV}
theorem wp_tupR {d : Cd PV} (h : Wp (d e s) (fun v e s => ∃ j, v = .int j ∧ (okR j = true ∧ j ≤ 16777216) ∧ Q (.tup ((List.range j.toNat).map fun (i : Nat) => PV.int i)) e s) R) : Wp (dTupR d e s) Q R :=
  wp_bnd (Wp.mono h (fun p e1 s1 ⟨j, e3, hj, h2⟩ => by
    subst e3
    show Wp ((if okR j = true ∧ j ≤ 16777216 then ret (PV.tup ((List.range j.toNat).map fun (i : Nat) => PV.int i)) else fun _ _ => .bad) e1 s1) Q R
    rw [if_pos hj]
    exact h2) fun _ _ _ _ h => h)
end
namespace I
theorem wp_tupR {e : Env} {s : Stt} {R : Pr} {Q : Pq PV} {d : Cd PV} (h : Wp (d e s) (fun v e s => ∃ j, v = .int j ∧ (okR j = true ∧ j ≤ 16777216) ∧ Q (.tup ((List.range j.toNat).map fun (i : Nat) => PV.int i)) e s) R) : Wp (dTupR d e s) Q R := by
  simp only [Wp_eq] at *
  exact FS.wp_tupR h
instance st_wp_tupR {e : Env} {s : Stt} {R : Pr} {Q : Pq PV} {d : Cd PV} : Stp (Wp (dTupR d e s) Q R) (Wp (d e s) (fun v e s => ∃ j, v = .int j ∧ (okR j = true ∧ j ≤ 16777216) ∧ Q (.tup ((List.range j.toNat).map fun (i : Nat) => PV.int i)) e s) R) := ⟨fun h => wp_tupR h⟩
end I
end FS
set_option Elab.async false
set_option linter.all false
set_option maxRecDepth 100000
/-! FsWpB: the rules of FsSet, FsCntL. -/
namespace FS
open PySem L2
section
variable {e : Env} {s : Stt} {R : Pr} {Q : Pq PV}
theorem wp_srtSet {d : Cd PV} {Q : Pq (List PV)} (h : Wp (d e s) (fun p e s => ∃ xs ns, seqF p = some xs ∧ intsOf xs = some ns ∧ ns.length < 64 ∧ Q ((srtI ns).map PV.int) e s) R) : Wp (dSrtSet d e s) Q R :=
  wp_bnd (Wp.mono h (fun p e1 s1 ⟨xs, ns, h1, h2, h3, h4⟩ => by
    show Wp (match (seqF p).bind intsOf with
      | some ns => if ns.length < 64 then Out.ok ((srtI ns).map PV.int) e1 s1 else .bad
      | none => .bad) Q R
    rw [h1, Option.bind_some, h2]
    simp only [if_pos h3]
    exact h4) fun _ _ _ _ h => h)
theorem wp_countL {da : Cd PV} {db : Cd (List PV)} (h : Wp (da e s) (fun p e s => ∃ xs ns, p = .lst xs ∧ intsOf xs = some ns ∧ Wp (db e s) (fun qs e s => ∃ i, qs = [.int i] ∧ Q (.int (ns.count i : Nat)) e s) R) R) : Wp (dCountL da db e s) Q R :=
  wp_bnd (Wp.mono h (fun p e1 s1 ⟨xs, ns, h1, h2, h3⟩ => by
    subst h1
    simp only [h2]
    exact wp_bnd (Wp.mono h3 (fun qs e2 s2 ⟨i, h4, h5⟩ => by
      subst h4
      exact h5) fun _ _ _ _ h => h)) fun _ _ _ _ h => h)
end
namespace I
section
variable {e : Env} {s : Stt} {R : Pr} {Q : Pq PV}
theorem wp_srtSet {d : Cd PV} {Q : Pq (List PV)} (h : Wp (d e s) (fun p e s => ∃ xs ns, seqF p = some xs ∧ intsOf xs = some ns ∧ ns.length < 64 ∧ Q ((srtI ns).map PV.int) e s) R) : Wp (dSrtSet d e s) Q R := by
  simp only [Wp_eq] at *
  exact FS.wp_srtSet h
theorem wp_countL {da : Cd PV} {db : Cd (List PV)} (h : Wp (da e s) (fun p e s => ∃ xs ns, p = .lst xs ∧ intsOf xs = some ns ∧ Wp (db e s) (fun qs e s => ∃ i, qs = [.int i] ∧ Q (.int (ns.count i : Nat)) e s) R) R) : Wp (dCountL da db e s) Q R := by
  simp only [Wp_eq] at *
  exact FS.wp_countL h
instance st_wp_srtSet {d : Cd PV} {Q : Pq (List PV)} : Stp (Wp (dSrtSet d e s) Q R) (Wp (d e s) (fun p e s => ∃ xs ns, seqF p = some xs ∧ intsOf xs = some ns ∧ ns.length < 64 ∧ Q ((srtI ns).map PV.int) e s) R) := ⟨fun h => wp_srtSet h⟩
instance st_wp_countL {da : Cd PV} {db : Cd (List PV)} : Stp (Wp (dCountL da db e s) Q R) (Wp (da e s) (fun p e s => ∃ xs ns, p = .lst xs ∧ intsOf xs = some ns ∧ Wp (db e s) (fun qs e s => ∃ i, qs = [.int i] ∧ Q (.int (ns.count i : Nat)) e s) R) R) := ⟨fun h => wp_countL h⟩
end
end I
end FS
set_option Elab.async false
set_option linter.all false
set_option maxRecDepth 100000
/-! FsPoly: products of forms, and their quotients. -/
namespace FS
/-- the n-th number of the product -/
def cv : List Int → List Int → Nat → Int
  | [], _, _ => 0
  | a :: f, g, 0 => a * g.getD 0 0
  | a :: f, g, n + 1 => a * g.getD (n + 1) 0 + cv f g n
theorem cv_nil (g : List Int) (n : Nat) : cv [] g n = 0 := by cases n <;> rfl
theorem cv_nil2 : ∀ (f : List Int) (n : Nat), cv f [] n = 0
  | [], n => cv_nil _ n
  | a :: f, 0 => by simp [cv]
  | a :: f, n + 1 => by
    have ih := cv_nil2 f n
    show a * ([] : List Int).getD (n + 1) 0 + cv f [] n = 0
    rw [ih]
    simp
theorem cv_cons (b : Int) : ∀ (f g : List Int) (n : Nat), cv f (b :: g) (n + 1) = b * f.getD (n + 1) 0 + cv f g n
  | [], g, n => by simp [cv_nil, cv]
  | a :: f, g, 0 => by
    show a * g.getD 0 0 + cv f (b :: g) 0 = b * f.getD 0 0 + cv (a :: f) g 0
    cases f with
    | nil => simp [cv]
    | cons c f =>
      show a * g.getD 0 0 + c * b = b * c + a * g.getD 0 0
      grind
  | a :: f, g, n + 1 => by
    have ih := cv_cons b f g n
    show a * g.getD (n + 1) 0 + cv f (b :: g) (n + 1) = b * f.getD (n + 1) 0 + (a * g.getD (n + 1) 0 + cv f g n)
    rw [ih]
    grind
theorem cv_comm : ∀ (f g : List Int) (n : Nat), cv f g n = cv g f n
  | [], g, n => by rw [cv_nil, cv_nil2]
  | a :: f, [], n => by rw [cv_nil, cv_nil2]
  | a :: f, b :: g, 0 => by
    show a * b = b * a
    grind
  | a :: f, b :: g, n + 1 => by
    have ih := cv_comm f (b :: g) n
    rw [cv_cons a (b :: g) f n, ← ih]
    rfl
theorem cv_snoc (a : Int) (g : List Int) : ∀ (f : List Int) (n : Nat), cv (f ++ [a]) g n = cv f g n + (if f.length ≤ n then a * g.getD (n - f.length) 0 else 0)
  | [], 0 => by simp [cv]
  | [], n + 1 => by simp [cv, cv_nil]
  | b :: f, 0 => by
    show b * g.getD 0 0 = b * g.getD 0 0 + _
    rw [if_neg (by simp)]
    omega
  | b :: f, n + 1 => by
    have ih := cv_snoc a g f n
    show b * g.getD (n + 1) 0 + cv (f ++ [a]) g n = (b * g.getD (n + 1) 0 + cv f g n) + _
    rw [ih]
    have e : (b :: f).length ≤ n + 1 ↔ f.length ≤ n := by simp
    have e2 : n + 1 - (b :: f).length = n - f.length := by simp
    rw [e2]
    by_cases h : f.length ≤ n
    · rw [if_pos h, if_pos (e.mpr h)]
      omega
    · rw [if_neg h, if_neg (fun q => h (e.mp q))]
      omega
theorem cv_take {f : List Int} {i : Nat} {a : Int} (g : List Int) (h : f[i]? = some a) (n : Nat) : cv (f.take (i + 1)) g n = cv (f.take i) g n + (if i ≤ n then a * g.getD (n - i) 0 else 0) := by
  have hi := (List.getElem?_eq_some_iff.mp h).1
  have hl : (f.take i).length = i := by rw [List.length_take]; omega
  have e : f.take (i + 1) = f.take i ++ [a] := by rw [List.take_succ, h]; rfl
  rw [e, cv_snoc, hl]
/-- the product of two forms -/
def tmv (p : Int) (f g : List Int) : List Int := (List.range (f.length + g.length - 1)).map fun n => cv f g n % p
theorem tmv_len (p : Int) (f g : List Int) : (tmv p f g).length = f.length + g.length - 1 := by simp [tmv]
theorem tmv_get {p : Int} {f g : List Int} {n : Nat} (h : n < f.length + g.length - 1) : (tmv p f g)[n]? = some (cv f g n % p) := by
  unfold tmv
  rw [List.getElem?_map, List.getElem?_range h]
  rfl
/-- numbers below p -/
def Bl (p : Int) (f : List Int) : Prop := ∀ x ∈ f, 0 ≤ x ∧ x < p
theorem tmv_bl {p : Int} (hp : 0 < p) (f g : List Int) : Bl p (tmv p f g) := fun x hx => by
  unfold tmv at hx
  obtain ⟨n, _, rfl⟩ := List.mem_map.mp hx
  exact ⟨Int.emod_nonneg _ (by omega), Int.emod_lt_of_pos _ hp⟩
/-! ### dividing -/
theorem getD_of {f : List Int} {t : Nat} {a : Int} (h : f[t]? = some a) : f.getD t 0 = a := by rw [List.getD_eq_getElem?_getD, h]; rfl
structure Rst (p : Int) (f g : List Int) (pl t : Nat) (h R : List Int) : Prop where
  hl : h.length = t
  hb : Bl p h
  rl : R.length = f.length
  rb : Bl p R
  rv : ∀ (n : Nat) (a : Int), f[n]? = some a → (a - cv h g n - R.getD n 0) % p = 0
  rz : ∀ j, pl ≤ j → j < pl + t → R.getD j 0 = 0
theorem Rst.start {p : Int} {f g : List Int} (pl : Nat) (hf : Bl p f) : Rst p f g pl 0 [] f := ⟨rfl, (fun x hx => by cases hx), rfl, hf, fun n a h => by rw [cv_nil, getD_of h]; simp, fun j h1 h2 => by omega⟩
/-! ### how products are made -/
def tmJ (p : Int) (F : Nat → Int) (a : Int) (g : List Int) (i j N : Nat) : List Int := (List.range N).map fun n => (F n + if i ≤ n ∧ n < i + j then a * g.getD (n - i) 0 else 0) % p
theorem tmJ_len (p : Int) (F : Nat → Int) (a : Int) (g : List Int) (i j N : Nat) : (tmJ p F a g i j N).length = N := by simp [tmJ]
theorem tmJ_get {p : Int} {F : Nat → Int} {a : Int} {g : List Int} {i j N n : Nat} (h : n < N) : (tmJ p F a g i j N)[n]? = some ((F n + if i ≤ n ∧ n < i + j then a * g.getD (n - i) 0 else 0) % p) := by
  unfold tmJ
  rw [List.getElem?_map, List.getElem?_range h]
  rfl
theorem tmJ_zero (p : Int) (F : Nat → Int) (a : Int) (g : List Int) (i N : Nat) : tmJ p F a g i 0 N = (List.range N).map fun n => F n % p := by
  unfold tmJ
  exact List.map_congr_left fun n _ => by rw [if_neg (by omega), Int.add_zero]
theorem tmJ_at {p : Int} {F : Nat → Int} {a : Int} {g : List Int} {i j N : Nat} (h : i + j < N) : (tmJ p F a g i j N)[i + j]? = some (F (i + j) % p) := by
  rw [tmJ_get h, if_neg (by omega), Int.add_zero]
theorem tmJ_set {p : Int} {F : Nat → Int} {a b : Int} {g : List Int} {i j N : Nat} (hb : g[j]? = some b) (h : i + j < N) : (tmJ p F a g i j N).set (i + j) ((F (i + j) % p + a * b) % p) = tmJ p F a g i (j + 1) N := by
  apply List.ext_getElem?
  intro n
  by_cases hn : n < N
  · rw [tmJ_get hn, List.getElem?_set, tmJ_len]
    by_cases he : i + j = n
    · subst he
      rw [if_pos rfl, if_pos h, if_pos (by omega), show i + j - i = j by omega, List.getD_eq_getElem?_getD, hb]
      exact congrArg some (mod_add (mod_mod _ _) rfl)
    · rw [if_neg he, tmJ_get hn]
      by_cases h1 : i ≤ n ∧ n < i + j
      · rw [if_pos h1, if_pos (by omega)]
      · rw [if_neg h1, if_neg (by omega)]
  · rw [List.getElem?_eq_none (by rw [List.length_set, tmJ_len]; omega), List.getElem?_eq_none (by rw [tmJ_len]; omega)]
theorem tmJ_done {p a : Int} {f g : List Int} {i N : Nat} (h : f[i]? = some a) : tmJ p (cv (f.take i) g) a g i g.length N = (List.range N).map fun n => cv (f.take (i + 1)) g n % p := by
  unfold tmJ
  refine List.map_congr_left fun n _ => ?_
  rw [cv_take g h]
  by_cases h1 : i ≤ n
  · rw [if_pos h1]
    by_cases h2 : n < i + g.length
    · rw [if_pos ⟨h1, h2⟩]
    · rw [if_neg (by omega), List.getD_eq_getElem?_getD, List.getElem?_eq_none (by omega)]
      simp
  · rw [if_neg (by omega), if_neg h1]
theorem tmv_start (p : Int) (g : List Int) (N : Nat) (f : List Int) : List.replicate N 0 = (List.range N).map fun n => cv (f.take 0) g n % p := by
  apply List.ext_getElem?
  intro n
  rw [List.getElem?_replicate, List.getElem?_map]
  by_cases hn : n < N
  · rw [if_pos hn, List.getElem?_range hn, List.take_zero]
    show some (0 : Int) = some (cv [] g n % p)
    rw [cv_nil]
    simp
  · rw [if_neg hn, List.getElem?_eq_none (by simp; omega)]
    rfl
/-! ### lines, their products -/
def lnv (p x : Int) : List Int := if x = p then [1, 0] else [(-x) % p, 1]
theorem lnv_len (p x : Int) : (lnv p x).length = 2 := by unfold lnv; split <;> rfl
theorem lnv_bl {p x : Int} (hp : 1 < p) : Bl p (lnv p x) := fun y hy => by
  have h0 := Int.emod_nonneg (-x) (b := p) (by omega)
  have h1 := Int.emod_lt_of_pos (-x) (b := p) (by omega)
  unfold lnv at hy
  split at hy
  · simp only [List.mem_cons, List.not_mem_nil, or_false] at hy
    rcases hy with rfl | rfl <;> omega
  · simp only [List.mem_cons, List.not_mem_nil, or_false] at hy
    rcases hy with rfl | rfl <;> omega
/-- times a line, n times -/
def pwv (p : Int) (l : List Int) : Nat → List Int → List Int
  | 0, f => f
  | n + 1, f => tmv p (pwv p l n f) l
theorem pwv_len {p : Int} {l : List Int} (hl : l.length = 2) (f : List Int) (n : Nat) (h : 1 ≤ f.length) : (pwv p l n f).length = f.length + n := by
  induction n with
  | zero => rfl
  | succ n ih =>
    show (tmv p (pwv p l n f) l).length = _
    rw [tmv_len, ih, hl]
    omega
theorem pwv_bl {p : Int} {l f : List Int} (hp : 0 < p) (hf : Bl p f) (n : Nat) : Bl p (pwv p l n f) := by
  cases n with
  | zero => exact hf
  | succ n => exact tmv_bl hp _ _
/-- the product of the lines of points, each as often as told -/
def prv (p : Int) : List (Int × Nat) → List Int → List Int
  | [], f => f
  | (x, n) :: r, f => prv p r (pwv p (lnv p x) n f)
theorem prv_snoc (p : Int) : ∀ (r : List (Int × Nat)) (x : Int) (n : Nat) (f : List Int), prv p (r ++ [(x, n)]) f = pwv p (lnv p x) n (prv p r f)
  | [], x, n, f => rfl
  | (y, m) :: r, x, n, f => prv_snoc p r x n (pwv p (lnv p y) m f)
theorem prv_len (p : Int) : ∀ (r : List (Int × Nat)) (f : List Int), 1 ≤ f.length → (prv p r f).length = f.length + (r.map (·.2)).sum
  | [], f, h => by simp [prv]
  | (x, n) :: r, f, h => by
    have hl := pwv_len (p := p) (lnv_len p x) f n h
    show (prv p r (pwv p (lnv p x) n f)).length = _
    rw [prv_len p r _ (by omega), hl]
    simp
    omega
theorem prv_bl {p : Int} (hp : 0 < p) : ∀ (r : List (Int × Nat)) (f : List Int), Bl p f → Bl p (prv p r f)
  | [], f, h => h
  | (x, n) :: r, f, h => prv_bl hp r _ (pwv_bl hp h n)
end FS
set_option Elab.async false
set_option linter.all false
set_option maxRecDepth 100000
/-! FsLin: rows modulo a prime: independence, kernels, the steps of an elimination. -/
namespace FS
abbrev Rw := List Int
/-- a sum of weighed rows, at one place -/
def cs (W : List (Int × Rw)) (t : Nat) : Int := (W.map fun w => w.1 * w.2.getD t 0).sum
def Indep (p : Int) (k : Nat) (L : List Rw) : Prop := ∀ W : List (Int × Rw), W.map (·.2) = L → (∀ t, t < k → p ∣ cs W t) → ∀ w ∈ W, p ∣ w.1
def dotv (k : Nat) (r : Rw) (v : Nat → Int) : Int := ((List.range k).map fun t => r.getD t 0 * v t).sum
def Ker (p : Int) (k : Nat) (L : List Rw) (v : Nat → Int) : Prop := ∀ r ∈ L, p ∣ dotv k r v
theorem perm_sum {l m : List Int} (h : l.Perm m) : l.sum = m.sum := by
  induction h with
  | nil => rfl
  | cons x _ ih => rw [List.sum_cons, List.sum_cons, ih]
  | swap x y l => simp only [List.sum_cons]; omega
  | trans _ _ h1 h2 => exact h1.trans h2
theorem perm_up {α β : Type} (f : α → β) {m n : List β} (h : m.Perm n) : ∀ l : List α, l.map f = n → ∃ l' : List α, l'.Perm l ∧ l'.map f = m := by
  induction h with
  | nil =>
    intro l e
    rw [List.map_eq_nil_iff.mp e]
    exact ⟨[], .refl _, rfl⟩
  | cons x _ ih =>
    intro l e
    cases l with
    | nil => simp at e
    | cons a l =>
      rw [List.map_cons] at e
      injection e with e1 e2
      obtain ⟨l', p, q⟩ := ih l e2
      exact ⟨a :: l', p.cons a, by rw [List.map_cons, e1, q]⟩
  | swap x y t =>
    intro l e
    cases l with
    | nil => simp at e
    | cons a l =>
      cases l with
      | nil => simp at e
      | cons b l =>
        rw [List.map_cons, List.map_cons] at e
        injection e with e1 e2
        injection e2 with e2 e3
        exact ⟨b :: a :: l, List.Perm.swap a b l, by rw [List.map_cons, List.map_cons, e1, e2, e3]⟩
  | trans _ _ ih1 ih2 =>
    intro l e
    obtain ⟨l2, p2, q2⟩ := ih2 l e
    obtain ⟨l1, p1, q1⟩ := ih1 l2 q2
    exact ⟨l1, p1.trans p2, q1⟩
theorem Indep.perm {p : Int} {k : Nat} {L M : List Rw} (h : L.Perm M) (hL : Indep p k L) : Indep p k M := fun W e hz => by
  obtain ⟨V, hp, he⟩ := perm_up (·.2) h W e
  have := hL V he (fun t ht => by
    have : cs V t = cs W t := perm_sum (hp.map _)
    rw [this]
    exact hz t ht)
  exact fun w hw => this w (hp.mem_iff.mpr hw)
theorem cs_zero (M : List Rw) (t : Nat) : cs (M.map fun r => ((0 : Int), r)) t = 0 := by
  induction M with
  | nil => rfl
  | cons a M ih =>
    unfold cs at ih ⊢
    rw [List.map_cons, List.map_cons, List.sum_cons, ih]
    simp
theorem cs_app (V W : List (Int × Rw)) (t : Nat) : cs (V ++ W) t = cs V t + cs W t := by
  unfold cs
  rw [List.map_append, List.sum_append]
theorem cs_cons (a : Int) (r : Rw) (W : List (Int × Rw)) (t : Nat) : cs ((a, r) :: W) t = a * r.getD t 0 + cs W t := by
  unfold cs
  rw [List.map_cons, List.sum_cons]
theorem Indep.sub {p : Int} {k : Nat} {L M : List Rw} (h : Indep p k (L ++ M)) : Indep p k L := fun W e hz => by
  have h1 := h (W ++ M.map fun r => ((0 : Int), r)) (by rw [List.map_append, e, List.map_map]; exact congrArg (L ++ ·) (List.map_id M)) (fun t ht => by
    rw [cs_app, cs_zero, Int.add_zero]
    exact hz t ht)
  exact fun w hw => h1 w (List.mem_append_left _ hw)
theorem weigh {R : List Rw} {g : Rw → Rw} : ∀ {V' : List (Int × Rw)}, V'.map (·.2) = R.map g → ∃ V : List (Int × Rw), V.map (·.2) = R ∧ V' = V.map fun w => (w.1, g w.2) := by
  induction R with
  | nil =>
    intro V' h
    rw [List.map_eq_nil_iff.mp h]
    exact ⟨[], rfl, rfl⟩
  | cons r R ih =>
    intro V' h
    cases V' with
    | nil => simp at h
    | cons a V' =>
      rw [List.map_cons, List.map_cons] at h
      injection h with h1 h2
      obtain ⟨V, e1, e2⟩ := ih h2
      exact ⟨(a.1, r) :: V, by rw [List.map_cons, e1], by rw [List.map_cons, ← e2, ← h1]⟩
/-- g r is r less r's number at c times f' -/
def Less (p : Int) (k c : Nat) (f' : Rw) (g : Rw → Rw) (R : List Rw) : Prop := ∀ r ∈ R, ∀ t, t < k → p ∣ (g r).getD t 0 - (r.getD t 0 - r.getD c 0 * f'.getD t 0)
theorem cs_less {p : Int} {k c : Nat} {f' : Rw} {g : Rw → Rw} : ∀ {V : List (Int × Rw)}, Less p k c f' g (V.map (·.2)) → ∀ t, t < k → p ∣ cs (V.map fun w => (w.1, g w.2)) t - (cs V t - cs V c * f'.getD t 0)
  | [], _, t, _ => ⟨0, by simp [cs]⟩
  | (a, r) :: V, h, t, ht => by
    have ih := cs_less (V := V) (fun r' hr => h r' (List.mem_cons_of_mem _ hr)) t ht
    have h1 := h r (List.mem_cons_self ..) t ht
    rw [List.map_cons, cs_cons, cs_cons, cs_cons]
    obtain ⟨x, hx⟩ := ih
    obtain ⟨y, hy⟩ := h1
    refine ⟨a * y + x, ?_⟩
    have e1 : (g r).getD t 0 = r.getD t 0 - r.getD c 0 * f'.getD t 0 + p * y := by omega
    have e2 : cs (V.map fun w => (w.1, g w.2)) t = cs V t - cs V c * f'.getD t 0 + p * x := by omega
    rw [e1, e2]
    grind
theorem dotv_lin {p : Int} {f f' r : Rw} {a b : Int} {v : Nat → Int} : ∀ {k : Nat}, (∀ t, t < k → p ∣ r.getD t 0 - (a * f.getD t 0 + b * f'.getD t 0)) → p ∣ dotv k r v - (a * dotv k f v + b * dotv k f' v)
  | 0, _ => ⟨0, by simp [dotv]⟩
  | k + 1, h => by
    obtain ⟨x, hx⟩ := dotv_lin (k := k) (v := v) fun t ht => h t (by omega)
    obtain ⟨y, hy⟩ := h k (by omega)
    unfold dotv at hx ⊢
    rw [List.range_succ, List.map_append, List.map_append, List.map_append, List.sum_append, List.sum_append, List.sum_append]
    simp only [List.map_cons, List.map_nil, List.sum_cons, List.sum_nil, Int.add_zero]
    refine ⟨x + y * v k, ?_⟩
    have e1 : r.getD k 0 = a * f.getD k 0 + b * f'.getD k 0 + p * y := by omega
    rw [e1]
    grind
section
variable {p : Int} {k c : Nat} {f f' : Rw} {R : List Rw} {g : Rw → Rw} {i : Int} (hc : c < k) (hi : p ∣ i * f.getD c 0 - 1) (hf : ∀ t, t < k → p ∣ f'.getD t 0 - i * f.getD t 0) (hg : Less p k c f' g R)
include hc hi hf hg
theorem Indep.step (h : Indep p k (f :: R)) : Indep p k (f' :: R.map g) := fun W' e hz => by
  cases W' with
  | nil => cases e
  | cons b V' =>
    obtain ⟨b, fr⟩ := b
    rw [List.map_cons] at e
    injection e with e1 e2
    have e1 : fr = f' := e1
    subst e1
    obtain ⟨V, e3, e4⟩ := weigh e2
    subst e4
    have hg' : Less p k c fr g (V.map (·.2)) := by rw [e3]; exact hg
    have key := h (((b - cs V c) * i, f) :: V) (by rw [List.map_cons, e3]) (fun t ht => by
      obtain ⟨x, hx⟩ := hz t ht
      obtain ⟨y, hy⟩ := cs_less hg' t ht
      obtain ⟨u, hu⟩ := hf t ht
      rw [cs_cons] at hx ⊢
      refine ⟨x - y - (b - cs V c) * u, ?_⟩
      have e5 : fr.getD t 0 = i * f.getD t 0 + p * u := by omega
      have e6 : cs (V.map fun w => (w.1, g w.2)) t = cs V t - cs V c * fr.getD t 0 + p * y := by omega
      rw [e6] at hx
      rw [e5] at hx
      grind)
    have h0 : p ∣ (b - cs V c) * i := key _ (List.mem_cons_self ..)
    have hV : ∀ w ∈ V, p ∣ w.1 := fun w hw => key w (List.mem_cons_of_mem _ hw)
    have hcs : p ∣ cs V c := by
      have : ∀ V : List (Int × Rw), (∀ w ∈ V, p ∣ w.1) → p ∣ cs V c := fun V => by
        induction V with
        | nil => exact fun _ => ⟨0, by simp [cs]⟩
        | cons w V ih =>
          intro h
          obtain ⟨a, r⟩ := w
          rw [cs_cons]
          exact Int.dvd_add (Int.dvd_mul_of_dvd_left (h (a, r) (List.mem_cons_self ..))) (ih fun w hw => h w (List.mem_cons_of_mem _ hw))
      exact this V hV
    have hb : p ∣ b := by
      obtain ⟨x, hx⟩ := h0
      obtain ⟨y, hy⟩ := hcs
      obtain ⟨z, hz⟩ := hi
      have e8 : i * f.getD c 0 = 1 + p * z := by omega
      refine ⟨x * f.getD c 0 + y - (b - cs V c) * z, ?_⟩
      have : (b - cs V c) * (i * f.getD c 0) = p * x * f.getD c 0 := by rw [← hx]; grind
      rw [e8] at this
      rw [hy] at this ⊢
      grind
    intro w hw
    rcases List.mem_cons.mp hw with rfl | hw
    · exact hb
    · obtain ⟨v, hv, rfl⟩ := List.mem_map.mp hw
      exact hV v hv
theorem Indep.back (h : Indep p k (f' :: R.map g)) : Indep p k (f :: R) := fun W e hz => by
  cases W with
  | nil => cases e
  | cons b V =>
    obtain ⟨b, fr⟩ := b
    rw [List.map_cons] at e
    injection e with e1 e2
    have e1 : fr = f := e1
    have e2 : V.map (·.2) = R := e2
    subst e1
    have hg' : Less p k c f' g (V.map (·.2)) := by rw [e2]; exact hg
    have key := h ((b * fr.getD c 0 + cs V c, f') :: V.map fun w => (w.1, g w.2)) (by rw [List.map_cons, List.map_map, ← e2, List.map_map]; rfl) (fun t ht => by
      obtain ⟨x, hx⟩ := hz t ht
      obtain ⟨y, hy⟩ := cs_less hg' t ht
      obtain ⟨u, hu⟩ := hf t ht
      obtain ⟨z, hz⟩ := hi
      rw [cs_cons] at hx ⊢
      have e5 : f'.getD t 0 = i * fr.getD t 0 + p * u := by omega
      have e6 : cs (V.map fun w => (w.1, g w.2)) t = cs V t - cs V c * f'.getD t 0 + p * y := by omega
      have e7 : i * fr.getD c 0 = 1 + p * z := by omega
      have e8 : cs V t = p * x - b * fr.getD t 0 := by omega
      refine ⟨x + y + b * fr.getD c 0 * u + b * z * fr.getD t 0, ?_⟩
      rw [e6, e5, e8]
      have e9 : b * fr.getD c 0 * (i * fr.getD t 0) = b * (1 + p * z) * fr.getD t 0 := by rw [← e7]; grind
      grind)
    have h0 : p ∣ b * fr.getD c 0 + cs V c := key _ (List.mem_cons_self ..)
    have hV : ∀ w ∈ V, p ∣ w.1 := fun w hw => key (w.1, g w.2) (List.mem_cons_of_mem _ (List.mem_map.mpr ⟨w, hw, rfl⟩))
    have hcs : p ∣ cs V c := by
      have : ∀ V : List (Int × Rw), (∀ w ∈ V, p ∣ w.1) → p ∣ cs V c := fun V => by
        induction V with
        | nil => exact fun _ => ⟨0, by simp [cs]⟩
        | cons w V ih =>
          intro h
          obtain ⟨a, r⟩ := w
          rw [cs_cons]
          exact Int.dvd_add (Int.dvd_mul_of_dvd_left (h (a, r) (List.mem_cons_self ..))) (ih fun w hw => h w (List.mem_cons_of_mem _ hw))
      exact this V hV
    have hb : p ∣ b := by
      obtain ⟨x, hx⟩ := h0
      obtain ⟨y, hy⟩ := hcs
      obtain ⟨z, hz⟩ := hi
      have e8 : i * fr.getD c 0 = 1 + p * z := by omega
      have e9 : b * fr.getD c 0 = p * (x - y) := by grind
      refine ⟨i * (x - y) - b * z, ?_⟩
      have : b * (i * fr.getD c 0) = i * (p * (x - y)) := by rw [← e9]; grind
      rw [e8] at this
      grind
    intro w hw
    rcases List.mem_cons.mp hw with rfl | hw
    · exact hb
    · exact hV w hw
theorem Ker.step {v : Nat → Int} : Ker p k (f :: R) v ↔ Ker p k (f' :: R.map g) v := by
  have h1 : p ∣ dotv k f' v - (i * dotv k f v + 0 * dotv k f v) := dotv_lin fun t ht => by
    obtain ⟨x, hx⟩ := hf t ht
    exact ⟨x, by omega⟩
  have h2 : ∀ r ∈ R, p ∣ dotv k (g r) v - (1 * dotv k r v + (-r.getD c 0) * dotv k f' v) := fun r hr => dotv_lin fun t ht => by
    obtain ⟨x, hx⟩ := hg r hr t ht
    refine ⟨x, ?_⟩
    rw [← hx]
    grind
  have hff : p ∣ dotv k f v ↔ p ∣ dotv k f' v := by
    obtain ⟨x, hx⟩ := h1
    obtain ⟨z, hz⟩ := hi
    have e8 : i * f.getD c 0 = 1 + p * z := by omega
    constructor
    · rintro ⟨y, hy⟩
      exact ⟨x + i * y, by rw [hy] at hx; grind⟩
    · rintro ⟨y, hy⟩
      refine ⟨f.getD c 0 * (y - x) - z * dotv k f v, ?_⟩
      have e9 : i * dotv k f v = p * (y - x) := by grind
      have : f.getD c 0 * (i * dotv k f v) = f.getD c 0 * (p * (y - x)) := by rw [e9]
      have e10 : f.getD c 0 * (i * dotv k f v) = (1 + p * z) * dotv k f v := by rw [← e8]; grind
      grind
  constructor
  · intro h r hr
    have hf0 := h f (List.mem_cons_self ..)
    have hf1 := hff.mp hf0
    rcases List.mem_cons.mp hr with rfl | hr
    · exact hf1
    · obtain ⟨r0, h0, rfl⟩ := List.mem_map.mp hr
      obtain ⟨x, hx⟩ := h2 r0 h0
      obtain ⟨y, hy⟩ := hf1
      obtain ⟨z, hz⟩ := h r0 (List.mem_cons_of_mem _ h0)
      exact ⟨x + z - r0.getD c 0 * y, by rw [hy, hz] at hx; grind⟩
  · intro h r hr
    have hf1 := h f' (List.mem_cons_self ..)
    rcases List.mem_cons.mp hr with rfl | hr
    · exact hff.mpr hf1
    · obtain ⟨x, hx⟩ := h2 r hr
      obtain ⟨y, hy⟩ := hf1
      obtain ⟨z, hz⟩ := h (g r) (List.mem_cons_of_mem _ (List.mem_map.mpr ⟨r, hr, rfl⟩))
      exact ⟨z - x + r.getD c 0 * y, by rw [hy, hz] at hx; grind⟩
end
/-! ### the state of an elimination behind some columns -/
structure El (p : Int) (k : Nat) (rows : List Rw) (c : Nat) (left found : List Rw) (cols : List Nat) : Prop where
  len : left.length + found.length = rows.length
  cl : cols.length = found.length
  zero : ∀ r ∈ left, ∀ t, t < c → p ∣ r.getD t 0
  ind : Indep p k rows ↔ Indep p k (left ++ found)
  ker : ∀ v, Ker p k rows v ↔ Ker p k (left ++ found) v
  below : ∀ x ∈ cols, x < c
  rise : cols.Pairwise (· < ·)
  one : ∀ (j : Nat) (x : Nat) (r : Rw), cols[j]? = some x → found[j]? = some r → p ∣ r.getD x 0 - 1
  other : ∀ (j l : Nat) (x : Nat) (r : Rw), cols[j]? = some x → found[l]? = some r → j ≠ l → p ∣ r.getD x 0
theorem El.start (p : Int) (k : Nat) (rows : List Rw) : El p k rows 0 rows [] [] :=
  ⟨by simp, rfl, fun r _ t h => absurd h (Nat.not_lt_zero t), (by rw [List.append_nil]), fun v => (by rw [List.append_nil]), fun x h => (by cases h), List.Pairwise.nil, fun j x r h => (by simp at h), fun j l x r h => (by simp at h)⟩
theorem El.skip {p : Int} {k c : Nat} {rows left found : List Rw} {cols : List Nat} (h : El p k rows c left found cols) (hz : ∀ r ∈ left, p ∣ r.getD c 0) : El p k rows (c + 1) left found cols :=
  ⟨h.len, h.cl, fun r hr t ht => by
    rcases Nat.lt_or_ge t c with q | q
    · exact h.zero r hr t q
    · have : t = c := by omega
      rw [this]
      exact hz r hr, h.ind, h.ker, fun x hx => Nat.lt_succ_of_lt (h.below x hx), h.rise, h.one, h.other⟩
theorem El.pivot {p : Int} {k c : Nat} {rows A B found : List Rw} {f f' : Rw} {g : Rw → Rw} {cols : List Nat} {i : Int} (h : El p k rows c (A ++ f :: B) found cols) (hc : c < k) (hi : p ∣ i * f.getD c 0 - 1) (hf : ∀ t, t < k → p ∣ f'.getD t 0 - i * f.getD t 0)
    (hg : Less p k c f' g (A ++ B ++ found)) : El p k rows (c + 1) ((A ++ B).map g) (found.map g ++ [f']) (cols ++ [c]) := by
  have hp1 : (A ++ f :: B ++ found).Perm (f :: (A ++ B ++ found)) := by
    have : (A ++ f :: B).Perm (f :: (A ++ B)) := List.perm_middle
    exact this.append_right found
  have hp2 : (f' :: (A ++ B ++ found).map g).Perm ((A ++ B).map g ++ (found.map g ++ [f'])) := by
    rw [List.map_append, ← List.append_assoc]
    exact (List.perm_append_singleton f' _).symm
  have hfc : p ∣ f'.getD c 0 - 1 := by
    obtain ⟨x, hx⟩ := hf c hc
    obtain ⟨y, hy⟩ := hi
    exact ⟨x + y, by grind⟩
  have hfz : ∀ t, t < c → p ∣ f'.getD t 0 := fun t ht => by
    obtain ⟨x, hx⟩ := hf t (by omega)
    obtain ⟨y, hy⟩ := h.zero f (by simp) t ht
    exact ⟨x + i * y, by rw [hy] at hx; grind⟩
  have hgc : ∀ r ∈ A ++ B ++ found, p ∣ (g r).getD c 0 := fun r hr => by
    obtain ⟨x, hx⟩ := hg r hr c hc
    obtain ⟨y, hy⟩ := hfc
    refine ⟨x - r.getD c 0 * y, ?_⟩
    have : f'.getD c 0 = 1 + p * y := by omega
    rw [this] at hx
    grind
  have hgt : ∀ r ∈ A ++ B ++ found, ∀ t, t < c → p ∣ (g r).getD t 0 - r.getD t 0 := fun r hr t ht => by
    obtain ⟨x, hx⟩ := hg r hr t (by omega)
    obtain ⟨y, hy⟩ := hfz t ht
    refine ⟨x - r.getD c 0 * y, ?_⟩
    rw [hy] at hx
    grind
  have hl := h.len
  have hcl := h.cl
  refine ⟨?_, ?_, fun r hr t ht => ?_, ?_, fun v => ?_, fun x hx => ?_, ?_, fun j x r hx hr => ?_, fun j l x r hx hr hne => ?_⟩
  · rw [List.length_map, List.length_append, List.length_append, List.length_map, List.length_singleton]
    rw [List.length_append, List.length_cons] at hl
    omega
  · rw [List.length_append, List.length_append, List.length_map, List.length_singleton, List.length_singleton, hcl]
  · obtain ⟨r0, h0, rfl⟩ := List.mem_map.mp hr
    have h0' : r0 ∈ A ++ B ++ found := List.mem_append_left _ h0
    rcases Nat.lt_or_ge t c with q | q
    · obtain ⟨x, hx⟩ := hgt r0 h0' t q
      have hz := h.zero r0 (by
        rcases List.mem_append.mp h0 with q | q
        · exact List.mem_append_left _ q
        · exact List.mem_append_right _ (List.mem_cons_of_mem _ q)) t q
      obtain ⟨y, hy⟩ := hz
      exact ⟨x + y, by rw [hy] at hx; grind⟩
    · have : t = c := by omega
      rw [this]
      exact hgc r0 h0'
  · rw [h.ind]
    constructor
    · intro q
      exact (Indep.step hc hi hf hg (q.perm hp1)).perm hp2
    · intro q
      exact (Indep.back hc hi hf hg (q.perm hp2.symm)).perm hp1.symm
  · rw [h.ker]
    have e1 : Ker p k (A ++ f :: B ++ found) v ↔ Ker p k (f :: (A ++ B ++ found)) v := ⟨fun q r hr => q r (hp1.mem_iff.mpr hr), fun q r hr => q r (hp1.mem_iff.mp hr)⟩
    have e2 : Ker p k (f' :: (A ++ B ++ found).map g) v ↔ Ker p k ((A ++ B).map g ++ (found.map g ++ [f'])) v := ⟨fun q r hr => q r (hp2.mem_iff.mpr hr), fun q r hr => q r (hp2.mem_iff.mp hr)⟩
    rw [e1, Ker.step hc hi hf hg, e2]
  · rcases List.mem_append.mp hx with q | q
    · exact Nat.lt_succ_of_lt (h.below x q)
    · rw [List.mem_singleton.mp q]
      exact Nat.lt_succ_self c
  · refine List.pairwise_append.mpr ⟨h.rise, List.pairwise_singleton _ _, fun a ha b hb => ?_⟩
    rw [List.mem_singleton.mp hb]
    exact h.below a ha
  · rcases Nat.lt_or_ge j cols.length with q | q
    · rw [List.getElem?_append_left q] at hx
      rw [List.getElem?_append_left (by rw [List.length_map]; omega), List.getElem?_map] at hr
      cases e : found[j]? with
      | none => rw [e] at hr; cases hr
      | some r0 =>
        rw [e] at hr
        cases hr
        have hxc := h.below x (List.mem_of_getElem? hx)
        obtain ⟨y, hy⟩ := hgt r0 (List.mem_append_right _ (List.mem_of_getElem? e)) x hxc
        obtain ⟨z, hz⟩ := h.one j x r0 hx e
        exact ⟨y + z, by grind⟩
    · rw [List.getElem?_append_right q] at hx
      rw [List.getElem?_append_right (by rw [List.length_map]; omega), List.length_map] at hr
      have hj : j - cols.length = 0 := by
        rcases Nat.eq_zero_or_pos (j - cols.length) with q | q
        · exact q
        · rw [List.getElem?_eq_none (by simp; omega)] at hx
          cases hx
      rw [hj] at hx
      rw [← hcl, hj] at hr
      simp at hx hr
      subst hx hr
      exact hfc
  · rcases Nat.lt_or_ge j cols.length with q | q
    · rw [List.getElem?_append_left q] at hx
      have hxc := h.below x (List.mem_of_getElem? hx)
      rcases Nat.lt_or_ge l found.length with q2 | q2
      · rw [List.getElem?_append_left (by rw [List.length_map]; omega), List.getElem?_map] at hr
        cases e : found[l]? with
        | none => rw [e] at hr; cases hr
        | some r0 =>
          rw [e] at hr
          cases hr
          obtain ⟨y, hy⟩ := hgt r0 (List.mem_append_right _ (List.mem_of_getElem? e)) x hxc
          obtain ⟨z, hz⟩ := h.other j l x r0 hx e hne
          exact ⟨y + z, by grind⟩
      · rw [List.getElem?_append_right (by rw [List.length_map]; omega), List.length_map] at hr
        have hj : l - found.length = 0 := by
          rcases Nat.eq_zero_or_pos (l - found.length) with q | q
          · exact q
          · rw [List.getElem?_eq_none (by simp; omega)] at hr
            cases hr
        rw [hj] at hr
        simp at hr
        subst hr
        exact hfz x hxc
    · rw [List.getElem?_append_right q] at hx
      have hj : j - cols.length = 0 := by
        rcases Nat.eq_zero_or_pos (j - cols.length) with q | q
        · exact q
        · rw [List.getElem?_eq_none (by simp; omega)] at hx
          cases hx
      rw [hj] at hx
      simp at hx
      subst hx
      rcases Nat.lt_or_ge l found.length with q2 | q2
      · rw [List.getElem?_append_left (by rw [List.length_map]; omega), List.getElem?_map] at hr
        cases e : found[l]? with
        | none => rw [e] at hr; cases hr
        | some r0 =>
          rw [e] at hr
          cases hr
          exact hgc r0 (List.mem_append_right _ (List.mem_of_getElem? e))
      · rw [List.getElem?_append_right (by rw [List.length_map]; omega), List.length_map] at hr
        have : l - found.length = 0 := by
          rcases Nat.eq_zero_or_pos (l - found.length) with q | q
          · exact q
          · rw [List.getElem?_eq_none (by simp; omega)] at hr
            cases hr
        omega
end FS
set_option Elab.async false
set_option linter.all false
set_option maxRecDepth 100000
/-! FsLin2: the rank that an elimination finds. -/
namespace FS
theorem El.full {p : Int} {k : Nat} {rows left found : List Rw} {cols : List Nat} (hp : 2 ≤ p) (h : El p k rows k left found cols) (hi : Indep p k rows) : left = [] := by
  cases left with
  | nil => rfl
  | cons r L =>
    exfalso
    have h1 := h.ind.mp hi
    have h2 := h1 (((1 : Int), r) :: (L ++ found).map fun r => ((0 : Int), r)) (by rw [List.map_cons, List.map_map]; exact congrArg (r :: ·) (List.map_id (L ++ found))) (fun t ht => by
      rw [cs_cons, cs_zero]
      obtain ⟨x, hx⟩ := h.zero r (List.mem_cons_self ..) t ht
      exact ⟨x, by omega⟩) _ (List.mem_cons_self ..)
    obtain ⟨x, hx⟩ := h2
    have h3 : (1 : Int) = p * x := hx
    have : p ∣ 1 := ⟨x, h3⟩
    have := Int.le_of_dvd (by decide) this
    omega
theorem cs_at {p : Int} {x : Nat} : ∀ {W : List (Int × Rw)} {j : Nat} {a : Int} {r : Rw}, W[j]? = some (a, r) → p ∣ r.getD x 0 - 1 → (∀ l b q, W[l]? = some (b, q) → l ≠ j → p ∣ q.getD x 0) → p ∣ cs W x - a
  | [], j, a, r, h, _, _ => by simp at h
  | (b, q) :: W, 0, a, r, h, h1, h2 => by
    simp at h
    obtain ⟨rfl, rfl⟩ := h
    rw [cs_cons]
    have hz : ∀ V : List (Int × Rw), (∀ (l : Nat) (b' : Int) (q' : Rw), V[l]? = some (b', q') → p ∣ q'.getD x 0) → p ∣ cs V x := fun V => by
      induction V with
      | nil => exact fun _ => ⟨0, by simp [cs]⟩
      | cons w V ih =>
        intro hv
        obtain ⟨b', q'⟩ := w
        rw [cs_cons]
        exact Int.dvd_add (Int.dvd_mul_of_dvd_right (hv 0 b' q' rfl)) (ih fun l b'' q'' e => hv (l + 1) b'' q'' (by simpa using e))
    obtain ⟨u, hu⟩ := hz W fun l b' q' e => h2 (l + 1) b' q' (by simpa using e) (by omega)
    obtain ⟨w, hw⟩ := h1
    refine ⟨b * w + u, ?_⟩
    have : q.getD x 0 = 1 + p * w := by omega
    rw [this, hu]
    grind
  | (b, q) :: W, j + 1, a, r, h, h1, h2 => by
    have ih := cs_at (p := p) (x := x) (W := W) (j := j) (a := a) (r := r) (by simpa using h) h1 fun l b' q' e hne => h2 (l + 1) b' q' (by simpa using e) (by omega)
    obtain ⟨u, hu⟩ := ih
    obtain ⟨w, hw⟩ := h2 0 b q rfl (by omega)
    rw [cs_cons, hw]
    exact ⟨b * w + u, by grind⟩
theorem El.indF {p : Int} {k c : Nat} {rows left found : List Rw} {cols : List Nat} (h : El p k rows c left found cols) (hck : c ≤ k) : Indep p k found := fun W e hz w hw => by
  obtain ⟨j, hj⟩ := List.getElem?_of_mem hw
  obtain ⟨a, r⟩ := w
  have hl : W.length = found.length := by rw [← e, List.length_map]
  have hjl : j < W.length := (List.getElem?_eq_some_iff.mp hj).1
  have hcl := h.cl
  have hx : cols[j]? = some (cols[j]'(by omega)) := List.getElem?_eq_getElem (by omega)
  generalize cols[j]'(by omega) = x at hx
  have hr : ∀ (l : Nat) (b : Int) (q : Rw), W[l]? = some (b, q) → found[l]? = some q := fun l b q hq => by
    rw [← e, List.getElem?_map, hq]
    rfl
  have hxc := h.below x (List.mem_of_getElem? hx)
  have h1 := cs_at (p := p) (x := x) hj (h.one j x r hx (hr j a r hj)) fun l b q hq hne => h.other j l x q hx (hr l b q hq) fun z => hne z.symm
  obtain ⟨u, hu⟩ := h1
  obtain ⟨v, hv⟩ := hz x (by omega)
  exact ⟨v - u, by show a = _; rw [hv] at hu; grind⟩
/-- nothing but 0 is weighed to 0 by all rows -/
def KerT (p : Int) (k : Nat) (L : List Rw) : Prop := ∀ v, Ker p k L v → ∀ t, t < k → p ∣ v t
theorem sum_one {p : Int} {g : Nat → Int} : ∀ {k : Nat} {a : Nat}, a < k → (∀ t, t < k → t ≠ a → p ∣ g t) → p ∣ ((List.range k).map g).sum - g a
  | 0, a, h, _ => absurd h (Nat.not_lt_zero a)
  | k + 1, a, h, h1 => by
    rw [List.range_succ, List.map_append, List.sum_append]
    simp only [List.map_cons, List.map_nil, List.sum_cons, List.sum_nil, Int.add_zero]
    rcases Nat.lt_or_ge a k with q | q
    · obtain ⟨x, hx⟩ := sum_one (g := g) q fun t ht hn => h1 t (by omega) hn
      obtain ⟨y, hy⟩ := h1 k (by omega) (by omega)
      exact ⟨x + y, by rw [hy]; grind⟩
    · have : a = k := by omega
      subst this
      have hz : ∀ n, n ≤ a → p ∣ ((List.range n).map g).sum := fun n => by
        induction n with
        | zero => exact fun _ => ⟨0, by simp⟩
        | succ n ih =>
          intro hn
          rw [List.range_succ, List.map_append, List.sum_append]
          simp only [List.map_cons, List.map_nil, List.sum_cons, List.sum_nil, Int.add_zero]
          exact Int.dvd_add (ih (by omega)) (h1 n (by omega) (by omega))
      obtain ⟨x, hx⟩ := hz a (Nat.le_refl _)
      exact ⟨x, by rw [hx]; grind⟩
theorem sum_two {p : Int} {g : Nat → Int} {k a b : Nat} (ha : a < k) (hb : b < k) (hab : a ≠ b) (h : ∀ t, t < k → t ≠ a → t ≠ b → p ∣ g t) : p ∣ ((List.range k).map g).sum - (g a + g b) := by
  have h1 := sum_one (p := p) (g := fun t => if t = b then 0 else g t) ha (fun t ht hn => by
    show p ∣ if t = b then 0 else g t
    split
    · exact ⟨0, by simp⟩
    · rename_i hb
      exact h t ht hn hb)
  have h2 := sum_one (p := p) (g := fun t => if t = b then g t else 0) hb (fun t ht hn => by
    show p ∣ if t = b then g t else 0
    rw [if_neg hn]
    exact ⟨0, by simp⟩)
  have e : ∀ n, ((List.range n).map g).sum = ((List.range n).map fun t => if t = b then 0 else g t).sum + ((List.range n).map fun t => if t = b then g t else 0).sum := fun n => by
    induction n with
    | zero => rfl
    | succ n ih =>
      rw [List.range_succ, List.map_append, List.map_append, List.map_append, List.sum_append, List.sum_append, List.sum_append, ih]
      simp only [List.map_cons, List.map_nil, List.sum_cons, List.sum_nil, Int.add_zero]
      split <;> omega
  rw [e]
  simp only [if_neg hab, if_true] at h1 h2
  obtain ⟨x, hx⟩ := h1
  obtain ⟨y, hy⟩ := h2
  exact ⟨x + y, by grind⟩
theorem rise_len : ∀ (l : List Nat) (a n : Nat), l.Pairwise (· < ·) → (∀ x ∈ l, a ≤ x ∧ x < n) → l.length ≤ n - a
  | [], _, _, _, _ => Nat.zero_le _
  | x :: l, a, n, h, hx => by
    obtain ⟨h1, h2⟩ := List.pairwise_cons.mp h
    have h3 := hx x (List.mem_cons_self ..)
    have := rise_len l (a + 1) n h2 fun y hy => ⟨by have := h1 y hy; omega, (hx y (List.mem_cons_of_mem _ hy)).2⟩
    rw [List.length_cons]
    omega
theorem missing_col : ∀ (l : List Nat) (a n : Nat), l.Pairwise (· < ·) → (∀ x ∈ l, a ≤ x ∧ x < n) → l.length < n - a → ∃ x, a ≤ x ∧ x < n ∧ x ∉ l
  | [], a, n, _, _, h => ⟨a, Nat.le_refl _, by simp at h; omega, by simp⟩
  | x :: l, a, n, h, hx, hl => by
    obtain ⟨h1, h2⟩ := List.pairwise_cons.mp h
    have h3 := hx x (List.mem_cons_self ..)
    by_cases e : x = a
    · subst e
      obtain ⟨y, y1, y2, y3⟩ := missing_col l (x + 1) n h2 (fun y hy => ⟨by have := h1 y hy; omega, (hx y (List.mem_cons_of_mem _ hy)).2⟩) (by rw [List.length_cons] at hl; omega)
      exact ⟨y, by omega, y2, fun hm => by
        rcases List.mem_cons.mp hm with q | q
        · omega
        · exact y3 q⟩
    · exact ⟨a, Nat.le_refl _, by omega, fun hm => by
        rcases List.mem_cons.mp hm with q | q
        · exact e q.symm
        · have := h1 a q
          omega⟩
theorem El.onto {p : Int} {k : Nat} {rows left found : List Rw} {cols : List Nat} (hp : 2 ≤ p) (h : El p k rows k left found cols) (hk : KerT p k rows) : found.length = k := by
  have hcl := h.cl
  have hle := rise_len cols 0 k h.rise fun x hx => ⟨Nat.zero_le x, h.below x hx⟩
  rcases Nat.lt_or_ge found.length k with hlt | hge
  · exfalso
    obtain ⟨a, _, ha, hna⟩ := missing_col cols 0 k h.rise (fun x hx => ⟨Nat.zero_le x, h.below x hx⟩) (by omega)
    let v : Nat → Int := fun t => if t = a then 1 else match cols.findIdx? (· = t) with
      | some j => -(found.getD j []).getD a 0
      | none => 0
    have hva : v a = 1 := if_pos rfl
    have hnd : ∀ (i j : Nat) (x : Nat), cols[i]? = some x → cols[j]? = some x → i = j := fun i j x h1 h2 => by
      have li := (List.getElem?_eq_some_iff.mp h1)
      have lj := (List.getElem?_eq_some_iff.mp h2)
      rcases Nat.lt_trichotomy i j with q | q | q
      · have := List.pairwise_iff_getElem.mp h.rise i j li.1 lj.1 q
        rw [li.2, lj.2] at this
        omega
      · exact q
      · have := List.pairwise_iff_getElem.mp h.rise j i lj.1 li.1 q
        rw [li.2, lj.2] at this
        omega
    have hvc : ∀ (j x : Nat) (r : Rw), cols[j]? = some x → found[j]? = some r → v x = -r.getD a 0 := fun j x r hx hr => by
      have hxa : x ≠ a := fun e => hna (e ▸ List.mem_of_getElem? hx)
      have hf : cols.findIdx? (· = x) = some j := by
        rw [List.findIdx?_eq_some_iff_getElem]
        have lj := List.getElem?_eq_some_iff.mp hx
        have ljl := lj.1
        refine ⟨lj.1, by simp [lj.2], fun i hi => ?_⟩
        simp only [Bool.not_eq_true, decide_eq_false_iff_not]
        intro e
        have := hnd i j x (by rw [List.getElem?_eq_getElem (by omega), e]) hx
        omega
      show (if x = a then 1 else match cols.findIdx? (· = x) with
        | some j => -(found.getD j []).getD a 0
        | none => 0) = _
      rw [if_neg hxa, hf]
      show -(found.getD j []).getD a 0 = _
      rw [show found.getD j [] = r from by rw [List.getD_eq_getElem?_getD, hr]; rfl]
    have hvo : ∀ t, t ≠ a → t ∉ cols → v t = 0 := fun t h1 h2 => by
      have hf : cols.findIdx? (· = t) = none := by
        rw [List.findIdx?_eq_none_iff]
        intro x hx
        simp only [decide_eq_false_iff_not]
        exact fun e => h2 (e ▸ hx)
      show (if t = a then 1 else match cols.findIdx? (· = t) with
        | some j => -(found.getD j []).getD a 0
        | none => 0) = _
      rw [if_neg h1, hf]
    have hker : Ker p k rows v := (h.ker v).mpr fun r hr => by
      rcases List.mem_append.mp hr with q | q
      · -- a row of zeros
        have hz : ∀ n, n ≤ k → p ∣ ((List.range n).map fun t => r.getD t 0 * v t).sum := fun n => by
          induction n with
          | zero => exact fun _ => ⟨0, by simp⟩
          | succ n ih =>
            intro hn
            rw [List.range_succ, List.map_append, List.sum_append]
            simp only [List.map_cons, List.map_nil, List.sum_cons, List.sum_nil, Int.add_zero]
            exact Int.dvd_add (ih (by omega)) (Int.dvd_mul_of_dvd_left (h.zero r q n (by omega)))
        exact hz k (Nat.le_refl _)
      · obtain ⟨l, hl⟩ := List.getElem?_of_mem q
        have hll := (List.getElem?_eq_some_iff.mp hl).1
        have hx : cols[l]? = some (cols[l]'(by omega)) := List.getElem?_eq_getElem (by omega)
        generalize cols[l]'(by omega) = x at hx
        have hxk := h.below x (List.mem_of_getElem? hx)
        have hxa : a ≠ x := fun e => hna (e ▸ List.mem_of_getElem? hx)
        obtain ⟨u, hu⟩ := sum_two (p := p) (g := fun t => r.getD t 0 * v t) ha hxk hxa (fun t ht h1 h2 => by
          show p ∣ r.getD t 0 * v t
          by_cases hm : t ∈ cols
          · obtain ⟨j, hj⟩ := List.getElem?_of_mem hm
            have hjl : j ≠ l := fun e => h2 (by rw [e, hx] at hj; exact (Option.some.inj hj).symm)
            exact Int.dvd_mul_of_dvd_left (h.other j l t r hj hl hjl)
          · rw [hvo t h1 hm]
            exact ⟨0, by simp⟩)
        have e1 := hvc l x r hx hl
        obtain ⟨w, hw⟩ := h.one l x r hx hl
        refine ⟨u - r.getD a 0 * w, ?_⟩
        show ((List.range k).map fun t => r.getD t 0 * v t).sum = _
        have e2 : r.getD x 0 = 1 + p * w := by omega
        have hu' : ((List.range k).map fun t => r.getD t 0 * v t).sum - (r.getD a 0 * v a + r.getD x 0 * v x) = p * u := hu
        rw [hva, e1, e2] at hu'
        grind
    have := hk v hker a ha
    rw [hva] at this
    have := Int.le_of_dvd (by decide) this
    omega
  · omega
end FS
set_option Elab.async false
set_option linter.all false
set_option maxRecDepth 100000
/-! FsLin3: inverses modulo a prime; an elimination exists; squares; powers. -/
namespace FS
theorem bez (a b : Nat) : ∃ x y : Int, x * a + y * b = Nat.gcd a b := by
  induction a, b using Nat.gcd.induction with
  | H0 n => exact ⟨0, 1, by simp⟩
  | H1 m n hm ih =>
    obtain ⟨x, y, h⟩ := ih
    refine ⟨y - x * (n / m : Nat), x, ?_⟩
    rw [Nat.gcd_rec, ← h]
    have h1 : ((n % m : Nat) : Int) = (n : Int) - (m : Int) * (n / m : Nat) := by
      have := Nat.mod_add_div n m
      omega
    rw [h1]
    grind
theorem prm_gcd1 {p x : Int} (h : prm p) (hx : ¬ p ∣ x) : ∃ i, p ∣ i * x - 1 := by
  have hp := h.1
  have key : ∀ x : Int, 0 < x → x < p → ∃ i, p ∣ i * x - 1 := fun x h0 h1 => by
    obtain ⟨u, v, huv⟩ := bez x.toNat p.toNat
    have ex : (x.toNat : Int) = x := by omega
    have ep : (p.toNat : Int) = p := by omega
    rw [ex, ep] at huv
    have d1 : Nat.gcd x.toNat p.toNat ∣ x.toNat := Nat.gcd_dvd_left ..
    have d2 : Nat.gcd x.toNat p.toNat ∣ p.toNat := Nat.gcd_dvd_right ..
    have hle : Nat.gcd x.toNat p.toNat ≤ x.toNat := Nat.le_of_dvd (by omega) d1
    have hpos : 0 < Nat.gcd x.toNat p.toNat := Nat.gcd_pos_of_pos_left _ (by omega)
    generalize Nat.gcd x.toNat p.toNat = g at *
    obtain ⟨c, hc⟩ := d2
    by_cases q : g = 1
    · subst q
      exact ⟨u, -v, by rw [show u * x - 1 = u * x + v * p - 1 - v * p by omega, huv]; grind⟩
    exfalso
    have hpc : p = (g : Int) * c := by rw [← ep, hc]; exact Int.natCast_mul g c
    have hc1 : 1 < c := by
      rcases Nat.lt_or_ge 1 c with q1 | q1
      · exact q1
      · have : g * c ≤ g * 1 := Nat.mul_le_mul_left g q1
        omega
    rcases Nat.le_total g c with q1 | q1
    · refine h.2.2 g (by omega) ?_ ?_
      · rw [hpc]
        exact_mod_cast Nat.mul_le_mul_left g q1
      · rw [hpc]
        exact Int.mul_emod_right _ _
    · refine h.2.2 c (by omega) ?_ ?_
      · rw [hpc]
        exact_mod_cast Nat.mul_le_mul_right c q1
      · rw [hpc]
        exact Int.mul_emod_left _ _
  have h0 := Int.emod_nonneg x (b := p) (by omega)
  have h1 := Int.emod_lt_of_pos x (b := p) (by omega)
  have hne : x % p ≠ 0 := fun e => hx (Int.dvd_of_emod_eq_zero e)
  obtain ⟨i, y, hy⟩ := key (x % p) (by omega) h1
  have e : x = x % p + p * (x / p) := (Int.emod_add_mul_ediv x p).symm
  refine ⟨i, y + i * (x / p), ?_⟩
  generalize x % p = r at *
  generalize x / p = q at *
  subst e
  grind
theorem prm_mul {p x y : Int} (h : prm p) (hxy : p ∣ x * y) (hx : ¬ p ∣ x) : p ∣ y := by
  obtain ⟨i, u, hu⟩ := prm_gcd1 h hx
  obtain ⟨v, hv⟩ := hxy
  refine ⟨i * v - u * y, ?_⟩
  have : i * (x * y) = i * (p * v) := by rw [hv]
  have e : i * x = 1 + p * u := by omega
  have : (i * x) * y = i * (p * v) := by grind
  rw [e] at this
  grind
theorem map_getD {k : Nat} {h : Nat → Int} {t : Nat} (ht : t < k) : ((List.range k).map h).getD t 0 = h t := by
  rw [List.getD_eq_getElem?_getD, List.getElem?_map, List.getElem?_range ht]
  rfl
theorem El.ex {p : Int} {k : Nat} (hp : prm p) (rows : List Rw) : ∀ c, c ≤ k → ∃ left found cols, El p k rows c left found cols := fun c => by
  induction c with
  | zero => exact fun _ => ⟨rows, [], [], El.start p k rows⟩
  | succ c ih =>
    intro hck
    obtain ⟨left, found, cols, h⟩ := ih (by omega)
    by_cases hz : ∀ r ∈ left, p ∣ r.getD c 0
    · exact ⟨left, found, cols, h.skip hz⟩
    · simp only [Classical.not_forall] at hz
      obtain ⟨f, hf, hfc⟩ := hz
      obtain ⟨A, B, rfl⟩ := List.append_of_mem hf
      obtain ⟨i, hi⟩ := prm_gcd1 hp hfc
      refine ⟨_, _, _, h.pivot (f' := (List.range k).map fun t => i * f.getD t 0) (g := fun r => (List.range k).map fun t => r.getD t 0 - r.getD c 0 * ((List.range k).map fun t => i * f.getD t 0).getD t 0) (by omega) hi (fun t ht => ?_) (fun r hr t ht => ?_)⟩
      · rw [map_getD ht]
        exact ⟨0, by simp⟩
      · rw [map_getD ht]
        exact ⟨0, by simp⟩
theorem square {p : Int} {k : Nat} (hp : prm p) {rows : List Rw} (hk : KerT p k rows) (hl : rows.length = k) : Indep p k rows := by
  obtain ⟨left, found, cols, h⟩ := El.ex (k := k) hp rows k (Nat.le_refl _)
  have h1 := h.onto hp.1 hk
  have h2 := h.len
  have h3 : left = [] := List.length_eq_zero_iff.mp (by omega)
  subst h3
  exact h.ind.mpr (h.indF (Nat.le_refl _))
/-! ### powers -/
end FS
set_option Elab.async false
set_option linter.all false
set_option maxRecDepth 100000
/-! FsLin4: a form of k numbers with k zeros is 0; equations of cells. -/
namespace FS
/-- the quotient by a line -/
def dv (x : Int) : List Int → List Int
  | [] => []
  | [_] => []
  | _ :: b :: f => T (b :: f) x 0 :: dv x (b :: f)
theorem dv_len (x : Int) : ∀ f : List Int, (dv x f).length = f.length - 1
  | [] => rfl
  | [_] => rfl
  | _ :: b :: f => by
    show (dv x (b :: f)).length + 1 = _
    rw [dv_len x (b :: f)]
    simp
theorem T_dv (x b : Int) : ∀ (f : List Int), T f b 0 = (b - x) * T (dv x f) b 0 + T f x 0 ∧ ∀ j, T f b (j + 1) = (b - x) * T (dv x f) b (j + 1) + T (dv x f) b j
  | [] => ⟨by show (0 : Int) = _ * 0 + 0; omega, fun j => by show (0 : Int) = _ * T [] b (j + 1) + T [] b j; rw [T_nil, T_nil]; omega⟩
  | [a] => ⟨by
      show a + b * T [] b 0 = _ * T [] b 0 + (a + x * T [] x 0)
      rw [T_nil, T_nil]
      omega, fun j => by
      show T [] b j + b * T [] b (j + 1) = _ * T [] b (j + 1) + T [] b j
      rw [T_nil, T_nil]
      omega⟩
  | a :: c :: f => by
    obtain ⟨h0, h1⟩ := T_dv x b (c :: f)
    generalize hF : (c :: f) = F at h0 h1
    have e : dv x (a :: F) = T F x 0 :: dv x F := by rw [← hF]; rfl
    rw [e]
    generalize dv x F = g at h0 h1
    refine ⟨?_, fun j => ?_⟩
    · show a + b * T F b 0 = (b - x) * (T F x 0 + b * T g b 0) + (a + x * T F x 0)
      rw [h0]
      grind
    · cases j with
      | zero =>
        show T F b 0 + b * T F b 1 = (b - x) * (T g b 0 + b * T g b 1) + (T F x 0 + b * T g b 0)
        rw [h0, h1 0]
        grind
      | succ j =>
        show T F b (j + 1) + b * T F b (j + 2) = (b - x) * (T g b (j + 1) + b * T g b (j + 2)) + (T g b j + b * T g b (j + 1))
        rw [h1 j, h1 (j + 1)]
        grind
theorem dv_get (x : Int) : ∀ (f : List Int) (t : Nat), f.getD (t + 1) 0 = (dv x f).getD t 0 - x * (dv x f).getD (t + 1) 0
  | [], t => by simp [dv]
  | [_], t => by simp [dv]
  | [_, b], t => by
    show [b].getD t 0 = [T [b] x 0].getD t 0 - x * [T [b] x 0].getD (t + 1) 0
    have : T [b] x 0 = b := by
      show b + x * T [] x 0 = b
      rw [T_nil]
      omega
    rw [this]
    cases t <;> simp
  | _ :: b :: c :: f, 0 => by
    show b = T (b :: c :: f) x 0 - x * T (c :: f) x 0
    show b = (b + x * T (c :: f) x 0) - x * T (c :: f) x 0
    omega
  | _ :: b :: c :: f, t + 1 => dv_get x (b :: c :: f) t
theorem T_snoc {p c b : Int} (hc : p ∣ c) : ∀ (g : List Int) (j : Nat), p ∣ T (g ++ [c]) b j - T g b j
  | [], 0 => by
    show p ∣ c + b * T [] b 0 - T [] b 0
    rw [T_nil]
    obtain ⟨x, hx⟩ := hc
    exact ⟨x, by omega⟩
  | [], j + 1 => by
    show p ∣ T [] b j + b * T [] b (j + 1) - T [] b (j + 1)
    rw [T_nil, T_nil]
    exact ⟨0, by omega⟩
  | a :: g, 0 => by
    obtain ⟨x, hx⟩ := T_snoc (b := b) hc g 0
    show p ∣ (a + b * T (g ++ [c]) b 0) - (a + b * T g b 0)
    exact ⟨b * x, by grind⟩
  | a :: g, j + 1 => by
    obtain ⟨x, hx⟩ := T_snoc (b := b) hc g j
    obtain ⟨y, hy⟩ := T_snoc (b := b) hc g (j + 1)
    show p ∣ (T (g ++ [c]) b j + b * T (g ++ [c]) b (j + 1)) - (T g b j + b * T g b (j + 1))
    exact ⟨x + b * y, by grind⟩
def cellF (p : Int) (f : List Int) (x : Int) (j : Nat) : Int := if x = p then f.reverse.getD j 0 else T f x j
theorem rev_getD {f : List Int} {j : Nat} (h : j < f.length) : f.reverse.getD j 0 = f.getD (f.length - 1 - j) 0 := by
  rw [List.getD_eq_getElem?_getD, List.getD_eq_getElem?_getD, List.getElem?_reverse h]
theorem unit_sub {p a b : Int} (ha : 0 ≤ a ∧ a < p) (hb : 0 ≤ b ∧ b < p) (h : a ≠ b) : ¬ p ∣ a - b := fun hd => by
  obtain ⟨c, hc⟩ := hd
  have h1 : -p < p * c := by omega
  have h2 : p * c < p := by omega
  have : c = 0 := by
    rcases Int.lt_trichotomy c 0 with q | q | q
    · have := Int.mul_le_mul_of_nonneg_left (show c ≤ -1 by omega) (show 0 ≤ p by omega)
      omega
    · exact q
    · have := Int.mul_le_mul_of_nonneg_left (show 1 ≤ c by omega) (show 0 ≤ p by omega)
      omega
  rw [this] at hc
  omega
/-- as many zeros as numbers: all numbers are 0 -/
theorem van {p : Int} (hp : prm p) : ∀ (k : Nat) (f : List Int), f.length = k → ∀ P : List (Int × Nat), (P.map (·.1)).Nodup → (∀ q ∈ P, 0 ≤ q.1 ∧ q.1 ≤ p) → k ≤ (P.map (·.2)).sum → (∀ q ∈ P, ∀ j, j < q.2 → p ∣ cellF p f q.1 j) → ∀ a ∈ f, p ∣ a
  | 0, f, hf, P, _, _, _, _ => fun a ha => by
    rw [List.length_eq_zero_iff.mp hf] at ha
    cases ha
  | k + 1, f, hf, P, hnd, hr, hs, hc => by
    obtain ⟨q, hq, hq1⟩ : ∃ q ∈ P, 0 < q.2 := by
      apply Classical.byContradiction
      intro hn
      have : (P.map (·.2)).sum = 0 := by
        have : ∀ P : List (Int × Nat), (∀ q ∈ P, q.2 = 0) → (P.map (·.2)).sum = 0 := fun P => by
          induction P with
          | nil => exact fun _ => rfl
          | cons a P ih =>
            intro h
            rw [List.map_cons, List.sum_cons, h a (List.mem_cons_self ..), ih fun q hq => h q (List.mem_cons_of_mem _ hq)]
        exact this P fun q hq => by
          rcases Nat.eq_zero_or_pos q.2 with z | z
          · exact z
          · exact absurd ⟨q, hq, z⟩ hn
      omega
    obtain ⟨A, B, rfl⟩ := List.append_of_mem hq
    obtain ⟨x, L⟩ := q
    obtain ⟨L, rfl⟩ : ∃ l, L = l + 1 := ⟨L - 1, by have : 0 < L := hq1; omega⟩
    have hxr := hr (x, L + 1) (by simp)
    have hx0 := hc (x, L + 1) (by simp) 0 (Nat.succ_pos L)
    have hmem : ∀ q' ∈ A ++ (x, L) :: B, (q' = (x, L)) ∨ (q' ∈ A ++ (x, L + 1) :: B ∧ q'.1 ≠ x) := fun q' hq' => by
      rw [List.map_append, List.map_cons] at hnd
      have hnd2 := List.nodup_append.mp hnd
      have hnd3 := List.nodup_cons.mp hnd2.2.1
      rcases List.mem_append.mp hq' with h | h
      · exact .inr ⟨List.mem_append_left _ h, hnd2.2.2 q'.1 (List.mem_map.mpr ⟨q', h, rfl⟩) x (List.mem_cons_self ..)⟩
      · rcases List.mem_cons.mp h with h | h
        · exact .inl h
        · exact .inr ⟨List.mem_append_right _ (List.mem_cons_of_mem _ h), fun e => hnd3.1 (List.mem_map.mpr ⟨q', h, e⟩)⟩
    have hnd' : ((A ++ (x, L) :: B).map (·.1)).Nodup := by
      rw [List.map_append, List.map_cons] at hnd ⊢
      exact hnd
    have hr' : ∀ q ∈ A ++ (x, L) :: B, 0 ≤ q.1 ∧ q.1 ≤ p := fun q' hq' => by
      rcases hmem q' hq' with rfl | ⟨h, _⟩
      · exact hxr
      · exact hr q' h
    have hs' : k ≤ ((A ++ (x, L) :: B).map (·.2)).sum := by
      rw [List.map_append, List.map_cons, List.sum_append, List.sum_cons] at hs ⊢
      have : k + 1 ≤ (A.map (·.2)).sum + (L + 1 + (B.map (·.2)).sum) := hs
      show k ≤ (A.map (·.2)).sum + (L + (B.map (·.2)).sum)
      omega
    by_cases hxp : x = p
    · -- the far point: the last number is 0
      subst hxp
      obtain ⟨g, c, rfl⟩ : ∃ g c, f = g ++ [c] := ⟨f.dropLast, f.getLast (fun h => by rw [h] at hf; cases hf), (List.dropLast_concat_getLast _).symm⟩
      have hgl : g.length = k := by simpa using hf
      have hc0 : x ∣ c := by
        unfold cellF at hx0
        rw [if_pos rfl, List.reverse_append] at hx0
        exact hx0
      have ih := van hp k g hgl (A ++ (x, L) :: B) hnd' hr' hs' fun q' hq' j hj => by
        rcases hmem q' hq' with rfl | ⟨h, hne⟩
        · have := hc (x, L + 1) (by simp) (j + 1) (by have : j < L := hj; show j + 1 < L + 1; omega)
          unfold cellF at this ⊢
          rw [if_pos rfl] at this ⊢
          rw [List.reverse_append] at this
          exact this
        · have := hc q' h j hj
          unfold cellF at this ⊢
          rw [if_neg hne] at this ⊢
          obtain ⟨u, hu⟩ := T_snoc (b := q'.1) hc0 g j
          obtain ⟨w, hw⟩ := this
          exact ⟨w - u, by rw [hw] at hu; grind⟩
      intro a ha
      rcases List.mem_append.mp ha with h | h
      · exact ih a h
      · rw [List.mem_singleton.mp h]
        exact hc0
    · have hgl : (dv x f).length = k := by rw [dv_len, hf]; rfl
      unfold cellF at hx0
      rw [if_neg hxp] at hx0
      have hx0 : p ∣ T f x 0 := hx0
      have hxlt : x < p := by have := hxr.2; show x < p; have : x ≤ p := hxr.2; omega
      have ih := van hp k (dv x f) hgl (A ++ (x, L) :: B) hnd' hr' hs' fun q' hq' j hj => by
        rcases hmem q' hq' with rfl | ⟨h, hne⟩
        · have := hc (x, L + 1) (by simp) (j + 1) (by have : j < L := hj; show j + 1 < L + 1; omega)
          unfold cellF at this ⊢
          rw [if_neg hxp] at this ⊢
          rw [(T_dv x x f).2 j] at this
          simpa using this
        · by_cases hqp : q'.1 = p
          · have hcell : ∀ i, i < q'.2 → p ∣ f.reverse.getD i 0 := fun i hi => by
              have := hc q' h i hi
              unfold cellF at this
              rwa [if_pos hqp] at this
            unfold cellF
            rw [if_pos hqp]
            have key : ∀ i, i ≤ j → p ∣ (dv x f).reverse.getD i 0 := fun i => by
              induction i with
              | zero =>
                intro _
                rcases Nat.eq_zero_or_pos k with hk0 | hk0
                · have : dv x f = [] := List.length_eq_zero_iff.mp (by omega)
                  rw [this]
                  exact ⟨0, by simp⟩
                · have h1 := hcell 0 (by omega)
                  rw [rev_getD (by omega)] at h1 ⊢
                  have h2 := dv_get x f (k - 1)
                  rw [show (dv x f).getD (k - 1 + 1) 0 = 0 from by rw [List.getD_eq_getElem?_getD, List.getElem?_eq_none (by omega)]; rfl] at h2
                  rw [show f.length - 1 - 0 = k - 1 + 1 by omega, h2] at h1
                  rw [show (dv x f).length - 1 - 0 = k - 1 by omega]
                  simpa using h1
              | succ i ihi =>
                intro hi
                rcases Nat.lt_or_ge (i + 1) k with hk1 | hk1
                · have h1 := hcell (i + 1) (by omega)
                  have h3 := ihi (by omega)
                  rw [rev_getD (by omega)] at h1 h3 ⊢
                  have h2 := dv_get x f (k - 1 - (i + 1))
                  rw [show f.length - 1 - (i + 1) = k - 1 - (i + 1) + 1 by omega, h2] at h1
                  rw [show (dv x f).length - 1 - i = k - 1 - (i + 1) + 1 by omega] at h3
                  rw [show (dv x f).length - 1 - (i + 1) = k - 1 - (i + 1) by omega]
                  obtain ⟨u, hu⟩ := h1
                  obtain ⟨w, hw⟩ := h3
                  exact ⟨u + x * w, by rw [hw] at hu; grind⟩
                · rw [List.getD_eq_getElem?_getD, List.getElem?_eq_none (by rw [List.length_reverse]; omega)]
                  exact ⟨0, by simp⟩
            exact key j (Nat.le_refl _)
          · have hcell : ∀ i, i < q'.2 → p ∣ T f q'.1 i := fun i hi => by
              have := hc q' h i hi
              unfold cellF at this
              rwa [if_neg hqp] at this
            unfold cellF
            rw [if_neg hqp]
            have hq'r := hr q' h
            have hun : ¬ p ∣ q'.1 - x := unit_sub ⟨hq'r.1, by have := hq'r.2; omega⟩ ⟨hxr.1, hxlt⟩ hne
            have key : ∀ i, i ≤ j → p ∣ T (dv x f) q'.1 i := fun i => by
              induction i with
              | zero =>
                intro _
                have h1 := hcell 0 (by omega)
                rw [(T_dv x q'.1 f).1] at h1
                obtain ⟨u, hu⟩ := h1
                obtain ⟨w, hw⟩ := hx0
                exact prm_mul hp ⟨u - w, by rw [hw] at hu; grind⟩ hun
              | succ i ihi =>
                intro hi
                have h1 := hcell (i + 1) (by omega)
                have h3 := ihi (by omega)
                rw [(T_dv x q'.1 f).2 i] at h1
                obtain ⟨u, hu⟩ := h1
                obtain ⟨w, hw⟩ := h3
                exact prm_mul hp ⟨u - w, by rw [hw] at hu; grind⟩ hun
            exact key j (Nat.le_refl _)
      have hgd : ∀ t, p ∣ (dv x f).getD t 0 := fun t => by
        rw [List.getD_eq_getElem?_getD]
        cases e : (dv x f)[t]? with
        | none => exact ⟨0, by simp⟩
        | some a => exact ih a (List.mem_of_getElem? e)
      intro a ha
      obtain ⟨t, ht⟩ := List.getElem?_of_mem ha
      have hta : f.getD t 0 = a := by rw [List.getD_eq_getElem?_getD, ht]; rfl
      cases t with
      | succ t =>
        rw [dv_get x f t] at hta
        rw [← hta]
        exact Int.dvd_sub (hgd t) (Int.dvd_mul_of_dvd_right (hgd (t + 1)))
      | zero =>
        cases f with
        | nil => cases ha
        | cons b f' =>
          simp at ht
          subst ht
          cases f' with
          | nil =>
            have : T [b] x 0 = b := by
              show b + x * T [] x 0 = b
              rw [T_nil]
              omega
            rw [this] at hx0
            exact hx0
          | cons c f'' =>
            have h1 : p ∣ T (c :: f'') x 0 := hgd 0
            have h2 : p ∣ b + x * T (c :: f'') x 0 := hx0
            obtain ⟨u, hu⟩ := h1
            obtain ⟨w, hw⟩ := h2
            exact ⟨w - x * u, by rw [hu] at hw; grind⟩
end FS
set_option Elab.async false
set_option linter.all false
set_option maxRecDepth 100000
/-! FsLin5: the rows of equations of beginnings, and their rank; products of lines keep them. -/
namespace FS
/-- the equation of the cell j at x -/
def eqR (p : Int) (k : Nat) (x : Int) (j : Nat) : Rw := (List.range k).map fun t => if x = p then (if t + j + 1 = k then 1 else 0) else (((ch t j : Nat) : Int) * x ^ (t - j)) % p
theorem sum_dvd {p : Int} {g h : Nat → Int} : ∀ {k : Nat}, (∀ t, t < k → p ∣ g t - h t) → p ∣ ((List.range k).map g).sum - ((List.range k).map h).sum
  | 0, _ => ⟨0, by simp⟩
  | k + 1, hh => by
    obtain ⟨x, hx⟩ := sum_dvd (k := k) fun t ht => hh t (by omega)
    obtain ⟨y, hy⟩ := hh k (by omega)
    rw [List.range_succ, List.map_append, List.map_append, List.sum_append, List.sum_append]
    simp only [List.map_cons, List.map_nil, List.sum_cons, List.sum_nil, Int.add_zero]
    exact ⟨x + y, by grind⟩
theorem Sm_range (x : Int) (j : Nat) (v : Nat → Int) : ∀ m n : Nat, Sm x j ((List.range' n m).map v) n = ((List.range' n m).map fun t => v t * ((ch t j : Nat) : Int) * x ^ (t - j)).sum
  | 0, n => rfl
  | m + 1, n => by
    rw [List.range'_succ, List.map_cons, List.map_cons, List.sum_cons, ← Sm_range x j v m (n + 1)]
    rfl
theorem dot_eqR {p : Int} {k : Nat} {x : Int} {j : Nat} {v : Nat → Int} : p ∣ dotv k (eqR p k x j) v - cellF p ((List.range k).map v) x j := by
  unfold cellF
  by_cases hx : x = p
  · rw [if_pos hx]
    by_cases hj : j < k
    · have e1 : ((List.range k).map v).reverse.getD j 0 = v (k - 1 - j) := by
        rw [rev_getD (by simpa using hj), List.length_map, List.length_range, map_getD (by omega)]
      rw [e1]
      have := sum_one (p := p) (g := fun t => (eqR p k x j).getD t 0 * v t) (k := k) (a := k - 1 - j) (by omega) (fun t ht hn => by
        show p ∣ (eqR p k x j).getD t 0 * v t
        unfold eqR
        rw [map_getD ht, if_pos hx, if_neg (by omega)]
        exact ⟨0, by simp⟩)
      have e2 : (eqR p k x j).getD (k - 1 - j) 0 = 1 := by
        unfold eqR
        rw [map_getD (by omega), if_pos hx, if_pos (by omega)]
      simp only [e2, Int.one_mul] at this
      exact this
    · have e1 : ((List.range k).map v).reverse.getD j 0 = 0 := by
        rw [List.getD_eq_getElem?_getD, List.getElem?_eq_none (by simp; omega)]
        rfl
      rw [e1, Int.sub_zero]
      have := sum_dvd (p := p) (g := fun t => (eqR p k x j).getD t 0 * v t) (h := fun _ => 0) (k := k) fun t ht => by
        show p ∣ (eqR p k x j).getD t 0 * v t - 0
        unfold eqR
        rw [map_getD ht, if_pos hx, if_neg (by omega)]
        exact ⟨0, by simp⟩
      have h0 : ∀ k : Nat, ((List.range k).map fun _ => (0 : Int)).sum = 0 := fun k => by
        induction k with
        | zero => rfl
        | succ k ih => rw [List.range_succ, List.map_append, List.sum_append, ih]; rfl
      rw [h0, Int.sub_zero] at this
      exact this
  · rw [if_neg hx, ← Sm_T, show (List.range k).map v = (List.range' 0 k).map v from by rw [List.range_eq_range'], Sm_range, ← List.range_eq_range']
    refine sum_dvd fun t ht => ?_
    unfold eqR
    rw [map_getD ht, if_neg hx]
    show p ∣ (((ch t j : Nat) : Int) * x ^ (t - j)) % p * v t - v t * ((ch t j : Nat) : Int) * x ^ (t - j)
    rw [Int.mul_assoc (v t)]
    generalize ((ch t j : Nat) : Int) * x ^ (t - j) = a
    have e0 := Int.emod_add_mul_ediv a p
    refine ⟨-(a / p) * v t, ?_⟩
    generalize a % p = r at *
    generalize a / p = q at *
    subst e0
    grind
def bgn (p : Int) (k : Nat) (P : List (Int × Nat)) : List Rw := (P.map fun q => (List.range q.2).map (eqR p k q.1)).flatten
theorem bgn_len (p : Int) (k : Nat) : ∀ P : List (Int × Nat), (bgn p k P).length = (P.map (·.2)).sum
  | [] => rfl
  | q :: P => by
    show ((List.range q.2).map (eqR p k q.1) ++ bgn p k P).length = q.2 + (P.map (·.2)).sum
    rw [List.length_append, bgn_len p k P]
    simp
structure PtsOk (p : Int) (P : List (Int × Nat)) : Prop where
  nd : (P.map (·.1)).Nodup
  rg : ∀ q ∈ P, 0 ≤ q.1 ∧ q.1 ≤ p
theorem bgn_ker {p : Int} {k : Nat} {P : List (Int × Nat)} (hp : prm p) (hP : PtsOk p P) (hk : k ≤ (P.map (·.2)).sum) : KerT p k (bgn p k P) := fun v hv t ht => by
  have := van hp k ((List.range k).map v) (by simp) P hP.nd hP.rg hk (fun q hq j hj => by
    obtain ⟨x, hx⟩ := hv (eqR p k q.1 j) (List.mem_flatten.mpr ⟨_, List.mem_map.mpr ⟨q, hq, rfl⟩, List.mem_map.mpr ⟨j, List.mem_range.mpr hj, rfl⟩⟩)
    obtain ⟨y, hy⟩ := dot_eqR (p := p) (k := k) (x := q.1) (j := j) (v := v)
    exact ⟨x - y, by rw [hx] at hy; grind⟩)
  exact this (v t) (List.mem_map.mpr ⟨t, List.mem_range.mpr ht, rfl⟩)
theorem bgn_ind {p : Int} {k : Nat} {P : List (Int × Nat)} (hp : prm p) (hP : PtsOk p P) (hne : P ≠ []) (hk : (P.map (·.2)).sum ≤ k) : Indep p k (bgn p k P) := by
  cases P with
  | nil => exact absurd rfl hne
  | cons q P =>
    obtain ⟨x, n⟩ := q
    rw [List.map_cons, List.sum_cons] at hk
    have hk : n + (P.map (·.2)).sum ≤ k := hk
    obtain ⟨d, hd⟩ : ∃ d, n + d + (P.map (·.2)).sum = k := ⟨k - n - (P.map (·.2)).sum, by omega⟩
    have hP' : PtsOk p ((x, n + d) :: P) := ⟨hP.nd, fun q hq => by
      rcases List.mem_cons.mp hq with rfl | hq
      · exact hP.rg (x, n) (List.mem_cons_self ..)
      · exact hP.rg q (List.mem_cons_of_mem _ hq)⟩
    have h1 := square hp (bgn_ker (k := k) hp hP' (by rw [List.map_cons, List.sum_cons]; show k ≤ n + d + (P.map (·.2)).sum; omega)) (by rw [bgn_len, List.map_cons, List.sum_cons]; exact hd)
    have e : bgn p k ((x, n + d) :: P) = (List.range n).map (eqR p k x) ++ ((List.range' n d).map (eqR p k x) ++ bgn p k P) := by
      show (List.range (n + d)).map (eqR p k x) ++ bgn p k P = _
      rw [List.range_eq_range', show List.range' 0 (n + d) = List.range' 0 n ++ List.range' n d from by rw [List.range'_append_1.symm]; simp, List.map_append, List.append_assoc, ← List.range_eq_range']
    rw [e] at h1
    have hp2 : ((List.range n).map (eqR p k x) ++ ((List.range' n d).map (eqR p k x) ++ bgn p k P)).Perm (((List.range n).map (eqR p k x) ++ bgn p k P) ++ (List.range' n d).map (eqR p k x)) := by
      rw [List.append_assoc]
      exact List.Perm.append_left _ List.perm_append_comm
    exact (h1.perm hp2).sub
/-- the rank of the equations of beginnings -/
theorem rank_min {p : Int} {k : Nat} {P : List (Int × Nat)} {rows left found : List Rw} {cols : List Nat} (hp : prm p) (hP : PtsOk p P) (hne : P ≠ []) (hr : rows.Perm (bgn p k P)) (h : El p k rows k left found cols) : cols.length = min (P.map (·.2)).sum k := by
  have hl := hr.length_eq
  rw [bgn_len] at hl
  have hcl := h.cl
  have hlen := h.len
  rcases Nat.le_total (P.map (·.2)).sum k with q | q
  · have := h.full hp.1 ((bgn_ind hp hP hne q).perm hr.symm)
    subst this
    rw [Nat.min_eq_left q]
    simp at hlen
    omega
  · rw [Nat.min_eq_right q]
    have hk : KerT p k rows := fun v hv => bgn_ker hp hP q v fun r hr' => hv r (hr.mem_iff.mpr hr')
    rw [hcl, h.onto hp.1 hk]
/-! ### products of lines -/
theorem cv_two (c0 c1 : Int) (f : List Int) (n : Nat) : cv f [c0, c1] n = c0 * f.getD n 0 + c1 * (if n = 0 then 0 else f.getD (n - 1) 0) := by
  have h1 : ∀ m, cv [c1] f m = c1 * f.getD m 0 := fun m => by
    cases m with
    | zero => rfl
    | succ m =>
      show c1 * f.getD (m + 1) 0 + cv [] f m = _
      rw [cv_nil]
      omega
  rw [cv_comm]
  cases n with
  | zero =>
    show c0 * f.getD 0 0 = _
    rw [if_pos rfl]
    omega
  | succ n =>
    show c0 * f.getD (n + 1) 0 + cv [c1] f n = _
    rw [h1, if_neg (by omega)]
    rfl
/-- the exact list of f times c0 + c1 X -/
def mul2 (c0 c1 : Int) (f : List Int) : List Int := (List.range (f.length + 1)).map fun n => c0 * f.getD n 0 + c1 * (if n = 0 then 0 else f.getD (n - 1) 0)
theorem T_map_lin (x : Int) (a b : Int) (g h : Nat → Int) : ∀ (m : Nat) (l : List Nat) (j : Nat), l.length = m → T (l.map fun n => a * g n + b * h n) x j = a * T (l.map g) x j + b * T (l.map h) x j
  | 0, l, j, hl => by
    rw [List.length_eq_zero_iff.mp hl]
    simp [T_nil]
  | m + 1, [], j, hl => by cases hl
  | m + 1, n :: l, 0, hl => by
    have ih := T_map_lin x a b g h m l 0 (by simpa using hl)
    show (a * g n + b * h n) + x * T (l.map fun n => a * g n + b * h n) x 0 = a * (g n + x * T (l.map g) x 0) + b * (h n + x * T (l.map h) x 0)
    rw [ih]
    grind
  | m + 1, n :: l, j + 1, hl => by
    have ih := T_map_lin x a b g h m l j (by simpa using hl)
    have ih2 := T_map_lin x a b g h m l (j + 1) (by simpa using hl)
    show T (l.map fun n => a * g n + b * h n) x j + x * T (l.map fun n => a * g n + b * h n) x (j + 1) = a * (T (l.map g) x j + x * T (l.map g) x (j + 1)) + b * (T (l.map h) x j + x * T (l.map h) x (j + 1))
    rw [ih, ih2]
    grind
theorem T_zeroend (b : Int) (g : List Int) (j : Nat) : T (g ++ [0]) b j = T g b j := by
  have := T_snoc (p := 0) (b := b) (c := 0) ⟨0, rfl⟩ g j
  have := Int.zero_dvd.mp this
  omega
theorem map_getD_self (f : List Int) (m : Nat) : (List.range (f.length + m)).map (fun n => f.getD n 0) = f ++ List.replicate m 0 := by
  refine List.ext_getElem? fun i => ?_
  rw [List.getElem?_map]
  by_cases h : i < f.length
  · rw [List.getElem?_range (by omega), List.getElem?_append_left h, List.getElem?_eq_getElem h]
    show some (f.getD i 0) = _
    rw [List.getD_eq_getElem?_getD, List.getElem?_eq_getElem h]
    rfl
  · by_cases h2 : i < f.length + m
    · rw [List.getElem?_range h2, List.getElem?_append_right (by omega), List.getElem?_replicate, if_pos (by omega)]
      show some (f.getD i 0) = _
      rw [List.getD_eq_getElem?_getD, List.getElem?_eq_none (by omega)]
      rfl
    · rw [List.getElem?_eq_none (by simp; omega), List.getElem?_eq_none (by simp; omega)]
      rfl
theorem map_shift (f : List Int) : (List.range (f.length + 1)).map (fun n => if n = 0 then 0 else f.getD (n - 1) 0) = 0 :: f := by
  rw [List.range_succ_eq_map, List.map_cons, List.map_map]
  show (0 : Int) :: _ = _
  refine congrArg (0 :: ·) ?_
  have := map_getD_self f 0
  simp only [Nat.add_zero, List.replicate_zero, List.append_nil] at this
  refine Eq.trans (List.map_congr_left fun n _ => ?_) this
  show (if n + 1 = 0 then 0 else f.getD (n + 1 - 1) 0) = _
  rw [if_neg (by omega)]
  rfl
theorem T_mul2 (c0 c1 b : Int) (f : List Int) (j : Nat) : T (mul2 c0 c1 f) b j = c0 * T f b j + c1 * T (0 :: f) b j := by
  unfold mul2
  rw [T_map_lin b c0 c1 (fun n => f.getD n 0) (fun n => if n = 0 then 0 else f.getD (n - 1) 0) _ _ j rfl, map_getD_self f 1, map_shift]
  show c0 * T (f ++ [0]) b j + _ = _
  rw [T_zeroend]
theorem mul2_rev (c0 c1 : Int) (f : List Int) (j : Nat) (hj : j ≤ f.length) : (mul2 c0 c1 f).reverse.getD j 0 = c0 * (if j = 0 then 0 else f.reverse.getD (j - 1) 0) + c1 * f.reverse.getD j 0 := by
  have hl : (mul2 c0 c1 f).length = f.length + 1 := by simp [mul2]
  rw [rev_getD (by omega), hl]
  unfold mul2
  rw [map_getD (by omega)]
  by_cases h0 : j = 0
  · subst h0
    rw [if_pos rfl, show f.getD (f.length + 1 - 1 - 0) 0 = 0 from by rw [List.getD_eq_getElem?_getD, List.getElem?_eq_none (by omega)]; rfl]
    rcases Nat.eq_zero_or_pos f.length with q | q
    · have : f = [] := List.length_eq_zero_iff.mp q
      subst this
      simp
    · rw [if_neg (by omega), rev_getD q, show f.length + 1 - 1 - 0 - 1 = f.length - 1 - 0 by omega]
  · rw [if_neg h0, rev_getD (j := j - 1) (by omega), show f.length - 1 - (j - 1) = f.length + 1 - 1 - j by omega]
    by_cases hjl : j = f.length
    · rw [if_pos (by omega), show f.reverse.getD j 0 = 0 from by rw [List.getD_eq_getElem?_getD, List.getElem?_eq_none (by simp; omega)]; rfl]
    · rw [if_neg (by omega), rev_getD (j := j) (by omega), show f.length + 1 - 1 - j - 1 = f.length - 1 - j by omega]
theorem cell_mod {p b : Int} {f g : List Int} (h : Lk p f g) (j : Nat) : p ∣ cellF p f b j - cellF p g b j := by
  unfold cellF
  split
  · by_cases hj : j < f.length
    · have hj2 : j < g.length := by rw [← h.1]; exact hj
      rw [rev_getD hj, rev_getD hj2, h.1]
      have i1 : g.length - 1 - j < f.length := by rw [h.1]; omega
      have i2 : g.length - 1 - j < g.length := by omega
      have := h.2 (g.length - 1 - j) _ _ (List.getElem?_eq_getElem i1) (List.getElem?_eq_getElem i2)
      rw [List.getD_eq_getElem?_getD, List.getD_eq_getElem?_getD, List.getElem?_eq_getElem i1, List.getElem?_eq_getElem i2]
      exact Int.dvd_of_emod_eq_zero (Int.emod_eq_emod_iff_emod_sub_eq_zero.mp this)
    · rw [List.getD_eq_getElem?_getD, List.getD_eq_getElem?_getD, List.getElem?_eq_none (by simp; omega), List.getElem?_eq_none (by rw [List.length_reverse, ← h.1]; omega)]
      exact ⟨0, by simp⟩
  · exact Int.dvd_of_emod_eq_zero (Int.emod_eq_emod_iff_emod_sub_eq_zero.mp (T_mod rfl f g j h))
theorem tmv_mul2 {p c0 c1 : Int} {f : List Int} : Lk p (tmv p f [c0, c1]) (mul2 c0 c1 f) := by
  have e : tmv p f [c0, c1] = (List.range (f.length + 1)).map fun n => cv f [c0, c1] n % p := rfl
  rw [e]
  refine ⟨by simp [mul2], fun i a b h1 h2 => ?_⟩
  unfold mul2 at h2
  have hi : i < f.length + 1 := by
    have := (List.getElem?_eq_some_iff.mp h1).1
    simpa using this
  rw [List.getElem?_map, List.getElem?_range hi] at h1 h2
  have h1 : cv f [c0, c1] i % p = a := Option.some.inj h1
  have h2 : _ = b := Option.some.inj h2
  rw [← h1, ← h2, cv_two, mod_mod]
def Van (p : Int) (f : List Int) (b : Int) (L : Nat) : Prop := ∀ j, j < L → p ∣ cellF p f b j
theorem Van.line {p x b : Int} {f : List Int} {L : Nat} (hp : 2 ≤ p) (h : Van p f b L) (hL : L ≤ f.length) : Van p (tmv p f (lnv p x)) b (L + if b = x then 1 else 0) := fun j hj => by
  have hb : ∀ i, i < L → p ∣ cellF p f b i := h
  by_cases hx : x = p
  · have e : lnv p x = [1, 0] := if_pos hx
    rw [e]
    obtain ⟨u, hu⟩ := cell_mod (b := b) (tmv_mul2 (p := p) (c0 := 1) (c1 := 0) (f := f)) j
    suffices hs : p ∣ cellF p (mul2 1 0 f) b j by
      obtain ⟨w, hw⟩ := hs
      exact ⟨u + w, by rw [hw] at hu; grind⟩
    unfold cellF
    by_cases hbp : b = p
    · rw [if_pos hbp]
      rw [if_pos (by omega)] at hj
      rw [mul2_rev 1 0 f j (by omega)]
      by_cases h0 : j = 0
      · rw [if_pos h0]
        exact ⟨0, by simp⟩
      · rw [if_neg h0]
        have := hb (j - 1) (by omega)
        unfold cellF at this
        rw [if_pos hbp] at this
        simpa using this
    · rw [if_neg hbp]
      rw [if_neg (by omega)] at hj
      rw [T_mul2]
      have := hb j (by omega)
      unfold cellF at this
      rw [if_neg hbp] at this
      simpa using this
  · have e : lnv p x = [(-x) % p, 1] := if_neg hx
    rw [e]
    have hc : ∃ q, (-x) % p = -x + p * q := ⟨-((-x) / p), by have := Int.emod_add_mul_ediv (-x) p; grind⟩
    obtain ⟨q, hq⟩ := hc
    generalize (-x) % p = c at hq
    obtain ⟨u, hu⟩ := cell_mod (b := b) (tmv_mul2 (p := p) (c0 := c) (c1 := 1) (f := f)) j
    suffices hs : p ∣ cellF p (mul2 c 1 f) b j by
      obtain ⟨w, hw⟩ := hs
      exact ⟨u + w, by rw [hw] at hu; grind⟩
    unfold cellF
    by_cases hbp : b = p
    · rw [if_pos hbp]
      rw [if_neg (by omega)] at hj
      rw [mul2_rev c 1 f j (by omega)]
      have h1 := hb j (by omega)
      unfold cellF at h1
      rw [if_pos hbp] at h1
      obtain ⟨w, hw⟩ := h1
      rw [hw]
      by_cases h0 : j = 0
      · rw [if_pos h0]
        exact ⟨w, by omega⟩
      · rw [if_neg h0]
        have h2 := hb (j - 1) (by omega)
        unfold cellF at h2
        rw [if_pos hbp] at h2
        obtain ⟨w2, hw2⟩ := h2
        rw [hw2]
        exact ⟨c * w2 + w, by grind⟩
    · rw [if_neg hbp, T_mul2]
      have hT : ∀ i, i < L → p ∣ T f b i := fun i hi => by
        have := hb i hi
        unfold cellF at this
        rwa [if_neg hbp] at this
      cases j with
      | zero =>
        show p ∣ c * T f b 0 + 1 * (0 + b * T f b 0)
        by_cases hbx : b = x
        · rw [hq, hbx]
          exact ⟨q * T f x 0, by grind⟩
        · rw [if_neg hbx] at hj
          obtain ⟨w, hw⟩ := hT 0 (by omega)
          rw [hw]
          exact ⟨c * w + b * w, by grind⟩
      | succ j =>
        show p ∣ c * T f b (j + 1) + 1 * (T f b j + b * T f b (j + 1))
        by_cases hbx : b = x
        · rw [if_pos hbx] at hj
          obtain ⟨w, hw⟩ := hT j (by omega)
          rw [hq, hw, hbx]
          exact ⟨q * T f x (j + 1) + w, by grind⟩
        · rw [if_neg hbx] at hj
          obtain ⟨w, hw⟩ := hT (j + 1) (by omega)
          obtain ⟨w2, hw2⟩ := hT j (by omega)
          rw [hw, hw2]
          exact ⟨c * w + w2 + b * w, by grind⟩
theorem Van.pw {p x b : Int} {f : List Int} {L : Nat} (hp : 2 ≤ p) (h : Van p f b L) (hL : L + 1 ≤ f.length) : ∀ n, Van p (pwv p (lnv p x) n f) b (L + if b = x then n else 0)
  | 0 => by
    split <;> exact h
  | n + 1 => by
    have ih := Van.pw (x := x) hp h hL n
    have hl := pwv_len (p := p) (lnv_len p x) f n (by omega)
    have := ih.line (x := x) hp (by rw [hl]; split <;> omega)
    intro j hj
    refine this j ?_
    split at hj <;> rename_i q
    · rw [if_pos q, if_pos q]
      omega
    · rw [if_neg q, if_neg q]
      omega
theorem Van.pr {p b : Int} (hp : 2 ≤ p) : ∀ (r : List (Int × Nat)) (f : List Int) (L : Nat), Van p f b L → L + 1 ≤ f.length → (∀ n, (b, n) ∈ r → Van p (prv p r f) b (L + n)) ∧ Van p (prv p r f) b L
  | [], f, L, h, _ => ⟨fun n hn => (by cases hn), h⟩
  | (x, m) :: r, f, L, h, hL => by
    have h1 := Van.pw (x := x) hp h hL m
    have hl := pwv_len (p := p) (lnv_len p x) f m (by omega)
    obtain ⟨i1, i2⟩ := Van.pr hp r (pwv p (lnv p x) m f) (L + if b = x then m else 0) h1 (by rw [hl]; split <;> omega)
    refine ⟨fun n hn => ?_, fun j hj => i2 j (by omega)⟩
    rcases List.mem_cons.mp hn with q | q
    · cases q
      rw [if_pos rfl] at i2
      exact i2
    · exact fun j hj => i1 n q j (by omega)
theorem Van.front {p b : Int} {f : List Int} {L : Nat} (h : Van p f b L) : Van p (0 :: f) b L := fun j hj => by
  have h1 := h j hj
  unfold cellF at h1 ⊢
  split
  · rename_i hb
    rw [if_pos hb] at h1
    rw [List.reverse_cons, List.getD_eq_getElem?_getD]
    by_cases q : j < f.reverse.length
    · rw [List.getElem?_append_left q]
      rw [List.getD_eq_getElem?_getD] at h1
      exact h1
    · rw [List.getElem?_append_right (by omega)]
      cases e : j - f.reverse.length with
      | zero => exact ⟨0, by simp⟩
      | succ i => exact ⟨0, by simp⟩
  · rename_i hb
    rw [if_neg hb] at h1
    cases j with
    | zero =>
      show p ∣ 0 + b * T f b 0
      obtain ⟨w, hw⟩ := h1
      exact ⟨b * w, by rw [hw]; grind⟩
    | succ j =>
      have h2 := h j (by omega)
      unfold cellF at h2
      rw [if_neg hb] at h2
      obtain ⟨w, hw⟩ := h1
      obtain ⟨u, hu⟩ := h2
      show p ∣ T f b j + b * T f b (j + 1)
      exact ⟨u + b * w, by rw [hw, hu]; grind⟩
theorem Van.back {p b : Int} {f : List Int} {L : Nat} (h : Van p f b L) : Van p (f ++ [0]) b L := fun j hj => by
  have h1 := h j hj
  unfold cellF at h1 ⊢
  split
  · rename_i hb
    rw [List.reverse_append]
    cases j with
    | zero => exact ⟨0, by simp⟩
    | succ j =>
      have h2 := h j (by omega)
      unfold cellF at h2
      rw [if_pos hb] at h2
      exact h2
  · rename_i hb
    rw [if_neg hb] at h1
    rw [T_zeroend]
    exact h1
theorem Van.pad {p b : Int} {f : List Int} {L : Nat} (h : Van p f b L) (m : Nat) : ∀ n, Van p (List.replicate n 0 ++ f ++ List.replicate m 0) b L
  | n + 1 => (Van.pad h m n).front
  | 0 => by
    induction m with
    | zero => simpa using h
    | succ m ih =>
      have := ih.back
      rw [List.append_assoc] at this
      rw [List.replicate_succ', ← List.append_assoc]
      rw [← List.append_assoc] at this
      exact this
/-- the products of the lines, moved, are weighed to 0 by all equations -/
theorem prv_dot {p : Int} {k : Nat} {P : List (Int × Nat)} (hp : 2 ≤ p) {q : Int × Nat} (hq : q ∈ P) {j : Nat} (hj : j < q.2) (n m : Nat) (hk : n + (prv p P [1]).length + m = k) :
    p ∣ dotv k (eqR p k q.1 j) (fun t => (List.replicate n 0 ++ prv p P [1] ++ List.replicate m 0).getD t 0) := by
  have h1 : Van p [1] q.1 0 := fun j hj => absurd hj (Nat.not_lt_zero j)
  have h2 := ((Van.pr hp P [1] 0 h1 (by simp)).1 q.2 hq).pad m n j (by omega)
  obtain ⟨x, hx⟩ := dot_eqR (p := p) (k := k) (x := q.1) (j := j) (v := fun t => (List.replicate n 0 ++ prv p P [1] ++ List.replicate m 0).getD t 0)
  have e : (List.range k).map (fun t => (List.replicate n 0 ++ prv p P [1] ++ List.replicate m 0).getD t 0) = List.replicate n 0 ++ prv p P [1] ++ List.replicate m 0 := by
    have := map_getD_self (List.replicate n 0 ++ prv p P [1] ++ List.replicate m 0) 0
    simp only [Nat.add_zero, List.replicate_zero, List.append_nil] at this
    have hl : (List.replicate n (0 : Int) ++ prv p P [1] ++ List.replicate m 0).length = k := by
      rw [List.length_append, List.length_append, List.length_replicate, List.length_replicate]
      exact hk
    rw [hl] at this
    exact this
  rw [e] at hx
  obtain ⟨y, hy⟩ := h2
  exact ⟨x + y, by rw [hy] at hx; grind⟩
end FS
set_option Elab.async false
set_option linter.all false
set_option maxRecDepth 100000
/-! FsLin6: ranks and kernels. -/
namespace FS
/-- rows that let nothing but 0 are as many as the places, or more -/
theorem ker_many {p : Int} {k : Nat} {rows : List Rw} (hp : prm p) (h : KerT p k rows) : k ≤ rows.length := by
  obtain ⟨left, found, cols, he⟩ := El.ex hp rows k (Nat.le_refl k)
  have := he.onto hp.1 h
  have := he.len
  omega
theorem ker_ex {p : Int} {k : Nat} {rows : List Rw} (hp : prm p) (h : rows.length < k) : ∃ v, Ker p k rows v ∧ ∃ t, t < k ∧ ¬ p ∣ v t := by
  apply Classical.byContradiction
  intro hn
  have : KerT p k rows := fun v hv t ht => Classical.byContradiction fun hd => hn ⟨v, hv, t, ht, hd⟩
  have := ker_many hp this
  omega
theorem dot_zero {p : Int} {k : Nat} {r : Rw} {v : Nat → Int} (h : ∀ t, t < k → p ∣ r.getD t 0) : p ∣ dotv k r v := by
  have hz : ∀ n, n ≤ k → p ∣ ((List.range n).map fun t => r.getD t 0 * v t).sum := fun n => by
    induction n with
    | zero => exact fun _ => ⟨0, by simp⟩
    | succ n ih =>
      intro hn
      rw [List.range_succ, List.map_append, List.sum_append]
      simp only [List.map_cons, List.map_nil, List.sum_cons, List.sum_nil, Int.add_zero]
      exact Int.dvd_add (ih (by omega)) (Int.dvd_mul_of_dvd_left (h n (by omega)))
  exact hz k (Nat.le_refl _)
/-- what the rows weigh to 0 is 0 if it is 0 beside the columns -/
theorem El.det {p : Int} {k : Nat} {rows left found : List Rw} {cols : List Nat} (h : El p k rows k left found cols) {v : Nat → Int} (hv : Ker p k rows v) (h0 : ∀ t, t < k → t ∉ cols → p ∣ v t) : ∀ t, t < k → p ∣ v t := fun t ht => by
  by_cases hm : t ∈ cols
  · obtain ⟨j, hj⟩ := List.getElem?_of_mem hm
    have hcl := h.cl
    have hjl := (List.getElem?_eq_some_iff.mp hj).1
    have hr : found[j]? = some (found[j]'(by omega)) := List.getElem?_eq_getElem (by omega)
    generalize found[j]'(by omega) = r at hr
    obtain ⟨u, hu⟩ := (h.ker v).mp hv r (List.mem_append_right _ (List.mem_of_getElem? hr))
    obtain ⟨w, hw⟩ := sum_one (p := p) (g := fun t => r.getD t 0 * v t) ht (fun t' ht' hne => by
      show p ∣ r.getD t' 0 * v t'
      by_cases hm' : t' ∈ cols
      · obtain ⟨l, hl⟩ := List.getElem?_of_mem hm'
        exact Int.dvd_mul_of_dvd_left (h.other l j t' r hl hr fun e => hne (by
          rw [e, hj] at hl
          exact (Option.some.inj hl).symm))
      · exact Int.dvd_mul_of_dvd_right (h0 t' ht' hm'))
    obtain ⟨x, hx⟩ := h.one j t r hj hr
    have hu' : ((List.range k).map fun t => r.getD t 0 * v t).sum = p * u := hu
    have hw' : ((List.range k).map fun t => r.getD t 0 * v t).sum - r.getD t 0 * v t = p * w := hw
    rw [hu', show r.getD t 0 = 1 + p * x by omega] at hw'
    exact ⟨u - w - x * v t, by grind⟩
  · exact h0 t ht hm
def uR (k t : Nat) : Rw := (List.range k).map fun i => if i = t then 1 else 0
theorem uR_dot {p : Int} {k t : Nat} (ht : t < k) (v : Nat → Int) : p ∣ dotv k (uR k t) v - v t := by
  have hg : ∀ i, i < k → (uR k t).getD i 0 = if i = t then 1 else 0 := fun i hi => by
    unfold uR
    rw [List.getD_eq_getElem?_getD, List.getElem?_map, List.getElem?_range hi]
    rfl
  have := sum_one (p := p) (g := fun i => (uR k t).getD i 0 * v i) ht (fun i hi hne => by
    show p ∣ (uR k t).getD i 0 * v i
    rw [hg i hi, if_neg hne]
    exact ⟨0, by simp⟩)
  have h2 : p ∣ ((List.range k).map fun i => (uR k t).getD i 0 * v i).sum - (uR k t).getD t 0 * v t := this
  rw [hg t ht, if_pos rfl, Int.one_mul] at h2
  exact h2
theorem beside_len : ∀ (m a : Nat) (l : List Nat), l.Pairwise (· < ·) → (∀ x ∈ l, a ≤ x ∧ x < a + m) → ((List.range' a m).filter fun x => decide (x ∉ l)).length + l.length ≤ m
  | 0, a, l, h, hx => by
    cases l with
    | nil => simp
    | cons x l =>
      have := hx x (List.mem_cons_self ..)
      omega
  | m + 1, a, l, h, hx => by
    rw [List.range'_succ]
    by_cases ha : a ∈ l
    · rw [List.filter_cons_of_neg (by simpa using ha)]
      cases l with
      | nil => cases ha
      | cons x l =>
        obtain ⟨h1, h2⟩ := List.pairwise_cons.mp h
        have hxa : x = a := by
          rcases List.mem_cons.mp ha with e | e
          · exact e.symm
          · have := h1 a e
            have := (hx x (List.mem_cons_self ..)).1
            omega
        subst hxa
        have ih := beside_len m (x + 1) l h2 fun y hy => ⟨by have := h1 y hy; omega, by have := (hx y (List.mem_cons_of_mem _ hy)).2; omega⟩
        have e : (List.range' (x + 1) m).filter (fun y => decide (y ∉ x :: l)) = (List.range' (x + 1) m).filter (fun y => decide (y ∉ l)) := List.filter_congr fun y hy => by
          have := (List.mem_range'_1.mp hy).1
          have hne : y ≠ x := by omega
          simp [hne]
        rw [e, List.length_cons]
        omega
    · rw [List.filter_cons_of_pos (by simpa using ha), List.length_cons]
      have ih := beside_len m (a + 1) l h fun y hy => ⟨by
        have := (hx y hy).1
        have : y ≠ a := fun e => ha (e ▸ hy)
        omega, by have := (hx y hy).2; omega⟩
      omega
/-- the places beside the columns -/
def bes (k : Nat) (cols : List Nat) : List Nat := (List.range' 0 k).filter fun x => decide (x ∉ cols)
theorem bes_mem {k : Nat} {cols : List Nat} {t : Nat} : t ∈ bes k cols ↔ t < k ∧ t ∉ cols := by
  unfold bes
  rw [List.mem_filter, List.mem_range'_1]
  simp
theorem El.bes_len {p : Int} {k : Nat} {rows left found : List Rw} {cols : List Nat} (h : El p k rows k left found cols) : (bes k cols).length + found.length ≤ k := by
  rw [← h.cl]
  exact beside_len k 0 cols h.rise fun x hx => ⟨Nat.zero_le x, by have := h.below x hx; omega⟩
theorem El.kerF {p : Int} {k : Nat} {rows left found : List Rw} {cols : List Nat} (h : El p k rows k left found cols) {v : Nat → Int} : Ker p k found v → Ker p k rows v := fun hv => (h.ker v).mpr fun r hr => by
  rcases List.mem_append.mp hr with q | q
  · exact dot_zero (h.zero r q)
  · exact hv r q
/-- of a lesser kernel the rank is as great or greater -/
theorem rank_le {p : Int} {k : Nat} {r1 r2 l1 l2 f1 f2 : List Rw} {c1 c2 : List Nat} (hp : prm p) (h1 : El p k r1 k l1 f1 c1) (h2 : El p k r2 k l2 f2 c2) (h : ∀ v, Ker p k r1 v → Ker p k r2 v) : f2.length ≤ f1.length := by
  have hb := h2.bes_len
  have hk : KerT p k (f1 ++ (bes k c2).map (uR k)) := fun v hv => h2.det (h v (h1.kerF fun r hr => hv r (List.mem_append_left _ hr))) fun t ht hn => by
    obtain ⟨x, hx⟩ := hv _ (List.mem_append_right _ (List.mem_map.mpr ⟨t, bes_mem.mpr ⟨ht, hn⟩, rfl⟩))
    obtain ⟨y, hy⟩ := uR_dot (p := p) ht v
    exact ⟨x - y, by rw [hx] at hy; grind⟩
  have := ker_many hp hk
  rw [List.length_append, List.length_map] at this
  omega
end FS
set_option Elab.async false
set_option linter.all false
set_option maxRecDepth 100000
/-! FsLin7: a place more among the equations. -/
namespace FS
theorem sum_lin (a : Int) (f g : Nat → Int) : ∀ k : Nat, ((List.range k).map fun t => a * f t + g t).sum = a * ((List.range k).map f).sum + ((List.range k).map g).sum
  | 0 => by simp
  | k + 1 => by
    have ih := sum_lin a f g k
    rw [List.range_succ, List.map_append, List.map_append, List.map_append, List.sum_append, List.sum_append, List.sum_append, ih]
    simp only [List.map_cons, List.map_nil, List.sum_cons, List.sum_nil, Int.add_zero]
    grind
theorem sum_same {f g : Nat → Int} {k : Nat} (h : ∀ t, f t = g t) : ((List.range k).map f).sum = ((List.range k).map g).sum := by
  rw [show f = g from funext h]
theorem sum_nil (k : Nat) : ((List.range k).map fun _ => (0 : Int)).sum = 0 := by
  induction k with
  | zero => rfl
  | succ k ih => rw [List.range_succ, List.map_append, List.sum_append, ih]; rfl
theorem cs_dot (k : Nat) (b : Nat → Int) : ∀ W : List (Int × Rw), ((List.range k).map fun t => cs W t * b t).sum = (W.map fun w => w.1 * dotv k w.2 b).sum
  | [] => by
    rw [sum_same (g := fun _ => 0) fun t => by simp [cs]]
    exact sum_nil k
  | (a, r) :: W => by
    have ih := cs_dot k b W
    rw [sum_same (g := fun t => a * (r.getD t 0 * b t) + cs W t * b t) fun t => by rw [cs_cons]; grind, sum_lin, ih]
    rfl
/-- a sum of weighed vectors -/
def cmb (n : Nat) (x : Nat → Int) (B : Nat → Nat → Int) (t : Nat) : Int := ((List.range n).map fun s => x s * B s t).sum
theorem dot_cmb (k : Nat) (r : Rw) (x : Nat → Int) (B : Nat → Nat → Int) : ∀ n : Nat, dotv k r (cmb n x B) = ((List.range n).map fun s => x s * dotv k r (B s)).sum
  | 0 => by
    unfold dotv cmb
    rw [sum_same (g := fun _ => 0) fun t => by simp]
    exact sum_nil k
  | n + 1 => by
    have ih := dot_cmb k r x B n
    rw [List.range_succ, List.map_append, List.sum_append, ← ih]
    unfold dotv
    rw [sum_same (g := fun t => x n * (r.getD t 0 * B n t) + r.getD t 0 * cmb n x B t) fun t => by
      unfold cmb
      rw [List.range_succ, List.map_append, List.sum_append]
      simp only [List.map_cons, List.map_nil, List.sum_cons, List.sum_nil, Int.add_zero]
      grind, sum_lin]
    simp only [List.map_cons, List.map_nil, List.sum_cons, List.sum_nil, Int.add_zero]
    omega
theorem sum_dv {p : Int} {f : Nat → Int} : ∀ {n : Nat}, (∀ s, s < n → p ∣ f s) → p ∣ ((List.range n).map f).sum
  | 0, _ => ⟨0, by simp⟩
  | n + 1, h => by
    rw [List.range_succ, List.map_append, List.sum_append]
    simp only [List.map_cons, List.map_nil, List.sum_cons, List.sum_nil, Int.add_zero]
    exact Int.dvd_add (sum_dv fun s hs => h s (by omega)) (h n (by omega))
theorem listsum_dv {p : Int} : ∀ {l : List Int}, (∀ x ∈ l, p ∣ x) → p ∣ l.sum
  | [], _ => ⟨0, by simp⟩
  | x :: l, h => by
    rw [List.sum_cons]
    exact Int.dvd_add (h x (List.mem_cons_self ..)) (listsum_dv fun y hy => h y (List.mem_cons_of_mem _ hy))
/-- a place that is not 0 in a vector of the kernel is one more -/
theorem indep_more {p : Int} {k t0 : Nat} {L : List Rw} {b : Nat → Int} (hp : prm p) (hi : Indep p k L) (ht : t0 < k) (hb : Ker p k L b) (hb0 : ¬ p ∣ b t0) : Indep p k (L ++ [uR k t0]) := fun W e hz => by
  obtain ⟨V, U, rfl, hV, hU⟩ := List.map_eq_append_iff.mp e
  obtain ⟨w, U', rfl, hw, hU'⟩ := List.map_eq_cons_iff.mp hU
  have : U' = [] := List.map_eq_nil_iff.mp hU'
  subst this
  obtain ⟨d, r⟩ := w
  have hr : r = uR k t0 := hw
  subst hr
  have h1 := cs_dot k b (V ++ [(d, uR k t0)])
  obtain ⟨y, hy⟩ := sum_dv (p := p) (f := fun t => cs (V ++ [(d, uR k t0)]) t * b t) (n := k) fun t ht => Int.dvd_mul_of_dvd_left (hz t ht)
  rw [hy, List.map_append, List.sum_append] at h1
  obtain ⟨z, hz2⟩ := listsum_dv (p := p) (l := V.map fun w => w.1 * dotv k w.2 b) fun x hx => by
    obtain ⟨w, hw, rfl⟩ := List.mem_map.mp hx
    exact Int.dvd_mul_of_dvd_right (hb w.2 (by rw [← hV]; exact List.mem_map.mpr ⟨w, hw, rfl⟩))
  rw [hz2] at h1
  simp only [List.map_cons, List.map_nil, List.sum_cons, List.sum_nil, Int.add_zero] at h1
  obtain ⟨q, hq⟩ := uR_dot (p := p) ht b
  have hd : p ∣ d := by
    refine prm_mul hp (x := b t0) ⟨y - z - d * q, ?_⟩ hb0
    have : dotv k (uR k t0) b = b t0 + p * q := by omega
    rw [this] at h1
    grind
  have hv : ∀ w ∈ V, p ∣ w.1 := hi V hV fun t ht => by
    obtain ⟨u, hu⟩ := hz t ht
    rw [cs_app, cs_cons] at hu
    obtain ⟨d', hd'⟩ := hd
    have h0 : cs [] t = 0 := rfl
    rw [h0, hd'] at hu
    exact ⟨u - d' * (uR k t0).getD t 0, by grind⟩
  intro w hw
  rcases List.mem_append.mp hw with h | h
  · exact hv w h
  · rw [List.mem_singleton.mp h]
    exact hd
theorem rank_more {p : Int} {k t0 : Nat} {L left found left' found' : List Rw} {cols cols' : List Nat} {b : Nat → Int} (hp : prm p) (hi : Indep p k L) (h : El p k L k left found cols) (h' : El p k (L ++ [uR k t0]) k left' found' cols') (ht : t0 < k) (hb : Ker p k L b) (hb0 : ¬ p ∣ b t0) : found'.length = found.length + 1 := by
  have e1 := h.full hp.1 hi
  have e2 := h'.full hp.1 (indep_more hp hi ht hb hb0)
  subst e1 e2
  have l1 := h.len
  have l2 := h'.len
  rw [List.length_append] at l2
  simp at l1 l2
  omega
theorem rank_same {p : Int} {k t0 n : Nat} {L left found left' found' : List Rw} {cols cols' : List Nat} {B : Nat → Nat → Int} (hp : prm p) (h : El p k L k left found cols) (h' : El p k (L ++ [uR k t0]) k left' found' cols') (ht : t0 < k) (hn : n + found.length = k)
    (hB : ∀ s, s < n → Ker p k L (B s)) (hi : ∀ x : Nat → Int, (∀ t, t < k → p ∣ cmb n x B t) → ∀ s, s < n → p ∣ x s) (h0 : ∀ s, s < n → p ∣ B s t0) : found'.length = found.length := by
  have h1 := rank_le hp h' h fun v hv r hr => hv r (List.mem_append_left _ hr)
  rcases Nat.lt_or_ge found.length found'.length with hlt | hge
  · exfalso
    have hb := h'.bes_len
    obtain ⟨x, hx, s0, hs0, hs1⟩ := ker_ex (p := p) (k := n) (rows := (bes k cols').map fun t => (List.range n).map fun s => B s t) hp (by rw [List.length_map]; omega)
    have hw : Ker p k (L ++ [uR k t0]) (cmb n x B) := fun r hr => by
      rcases List.mem_append.mp hr with q | q
      · rw [dot_cmb]
        exact sum_dv fun s hs => Int.dvd_mul_of_dvd_right (hB s hs r q)
      · rw [List.mem_singleton.mp q]
        obtain ⟨y, hy⟩ := uR_dot (p := p) ht (cmb n x B)
        obtain ⟨z, hz⟩ := sum_dv (p := p) (f := fun s => x s * B s t0) (n := n) fun s hs => Int.dvd_mul_of_dvd_right (h0 s hs)
        have hz : cmb n x B t0 = p * z := hz
        exact ⟨y + z, by rw [hz] at hy; grind⟩
    have hz := h'.det hw fun t ht hc => by
      obtain ⟨y, hy⟩ := hx _ (List.mem_map.mpr ⟨t, bes_mem.mpr ⟨ht, hc⟩, rfl⟩)
      obtain ⟨z, hz⟩ := sum_dvd (p := p) (k := n) (g := fun s => x s * B s t) (h := fun s => ((List.range n).map fun s => B s t).getD s 0 * x s) fun s hs => by
        rw [map_getD hs]
        exact ⟨0, by grind⟩
      have hz : cmb n x B t - dotv n ((List.range n).map fun s => B s t) x = p * z := hz
      exact ⟨y + z, by rw [hy] at hz; grind⟩
    exact hs1 (hi x hz s0 hs0)
  · omega
end FS
set_option Elab.async false
set_option linter.all false
set_option maxRecDepth 100000
/-! FsLin8: rows by the cells of units; the products of lines, moved, are free of one another. -/
namespace FS
theorem in_range_eq {p a b u : Int} (ha : 0 ≤ a ∧ a < p) (hb : 0 ≤ b ∧ b < p) (h : a - b = p * u) : a = b := by
  have := Int.emod_eq_of_lt ha.1 ha.2
  have h2 := Int.emod_eq_of_lt hb.1 hb.2
  have e : a = b + p * u := by omega
  rw [e, Int.add_mul_emod_self_left, h2] at this
  omega
/-- the greatest place that is not 0 -/
def Top (p : Int) (f : List Int) (m : Nat) : Prop := ¬ p ∣ f.getD m 0 ∧ ∀ n, m < n → p ∣ f.getD n 0
theorem getD_out {f : List Int} {n : Nat} (h : f.length ≤ n) : f.getD n 0 = 0 := by
  rw [List.getD_eq_getElem?_getD, List.getElem?_eq_none h]
  rfl
theorem Top.lt {p : Int} {f : List Int} {m : Nat} (h : Top p f m) : m < f.length := by
  rcases Nat.lt_or_ge m f.length with q | q
  · exact q
  · exact absurd ⟨0, by rw [getD_out q]; simp⟩ h.1
theorem tmv_two {p c0 c1 : Int} {f : List Int} (n : Nat) : ∃ u, (tmv p f [c0, c1]).getD n 0 = c0 * f.getD n 0 + c1 * (if n = 0 then 0 else f.getD (n - 1) 0) + p * u := by
  by_cases hn : n < f.length + [c0, c1].length - 1
  · have := getD_of (tmv_get (p := p) hn)
    rw [this, cv_two]
    refine ⟨-((c0 * f.getD n 0 + c1 * (if n = 0 then 0 else f.getD (n - 1) 0)) / p), ?_⟩
    have := Int.mul_ediv_add_emod (c0 * f.getD n 0 + c1 * (if n = 0 then 0 else f.getD (n - 1) 0)) p
    grind
  · have hl : [c0, c1].length = 2 := rfl
    rw [getD_out (by rw [tmv_len]; omega), getD_out (f := f) (by omega), if_neg (by omega), getD_out (f := f) (by omega)]
    exact ⟨0, by simp⟩
theorem Top.line {p x : Int} {f : List Int} {m : Nat} (h : Top p f m) : ∃ m', Top p (tmv p f (lnv p x)) m' := by
  unfold lnv
  split
  · refine ⟨m, fun hd => ?_, fun n hn => ?_⟩
    · obtain ⟨u, hu⟩ := tmv_two (p := p) (c0 := 1) (c1 := 0) (f := f) m
      obtain ⟨w, hw⟩ := hd
      rw [hw] at hu
      exact h.1 ⟨w - u, by grind⟩
    · obtain ⟨u, hu⟩ := tmv_two (p := p) (c0 := 1) (c1 := 0) (f := f) n
      obtain ⟨w, hw⟩ := h.2 n hn
      exact ⟨w + u, by grind⟩
  · refine ⟨m + 1, fun hd => ?_, fun n hn => ?_⟩
    · obtain ⟨u, hu⟩ := tmv_two (p := p) (c0 := -x % p) (c1 := 1) (f := f) (m + 1)
      obtain ⟨w, hw⟩ := hd
      obtain ⟨z, hz⟩ := h.2 (m + 1) (by omega)
      rw [hw, hz, if_neg (by omega), Nat.add_sub_cancel] at hu
      exact h.1 ⟨w - u - (-x % p) * z, by grind⟩
    · obtain ⟨u, hu⟩ := tmv_two (p := p) (c0 := -x % p) (c1 := 1) (f := f) n
      obtain ⟨z, hz⟩ := h.2 n (by omega)
      obtain ⟨w, hw⟩ := h.2 (n - 1) (by omega)
      rw [hz, if_neg (by omega), hw] at hu
      exact ⟨(-x % p) * z + w + u, by grind⟩
theorem Top.pw {p x : Int} {f : List Int} {m : Nat} (h : Top p f m) : ∀ n, ∃ m', Top p (pwv p (lnv p x) n f) m'
  | 0 => ⟨m, h⟩
  | n + 1 => by
    obtain ⟨m', h'⟩ := h.pw (x := x) n
    exact h'.line
theorem Top.pr {p : Int} : ∀ (r : List (Int × Nat)) {f : List Int} {m : Nat}, Top p f m → ∃ m', Top p (prv p r f) m'
  | [], f, m, h => ⟨m, h⟩
  | (x, n) :: r, f, m, h => by
    obtain ⟨m', h'⟩ := h.pw (x := x) n
    exact Top.pr r h'
theorem top_one {p : Int} (hp : 2 ≤ p) : Top p [1] 0 := ⟨fun h => by
  have h : p ∣ 1 := h
  have := Int.le_of_dvd (by decide) h
  omega, fun n hn => by rw [getD_out (by simp; omega)]; exact ⟨0, by simp⟩⟩
/-- a form moved by s places, with zeros up to the greatest move -/
def mv (n : Nat) (F : List Int) (s t : Nat) : Int := (List.replicate s 0 ++ F ++ List.replicate (n - 1 - s) 0).getD t 0
theorem rep_getD (s t : Nat) : (List.replicate s (0 : Int)).getD t 0 = 0 := by
  rw [List.getD_eq_getElem?_getD, List.getElem?_replicate]
  split <;> rfl
theorem mv_get {n s t : Nat} {F : List Int} : mv n F s t = if t < s then 0 else F.getD (t - s) 0 := by
  unfold mv
  rw [List.append_assoc, List.getD_eq_getElem?_getD]
  split
  · rename_i h
    rw [List.getElem?_append_left (by simpa using h), ← List.getD_eq_getElem?_getD, rep_getD]
  · rename_i h
    rw [List.getElem?_append_right (by simp; omega), List.length_replicate]
    by_cases h2 : t - s < F.length
    · rw [List.getElem?_append_left h2, List.getD_eq_getElem?_getD]
    · rw [List.getElem?_append_right (by omega), ← List.getD_eq_getElem?_getD, rep_getD, getD_out (by omega)]
theorem mv_indep {p : Int} {n k m : Nat} {F : List Int} (hp : prm p) (h : Top p F m) (hk : n + F.length = k + 1) (x : Nat → Int) (hx : ∀ t, t < k → p ∣ cmb n x (mv n F) t) : ∀ s, s < n → p ∣ x s := by
  have hm := h.lt
  suffices hd : ∀ d s, s < n → n - 1 - s ≤ d → p ∣ x s from fun s hs => hd n s hs (by omega)
  intro d
  induction d with
  | zero =>
    intro s hs hsd
    obtain ⟨u, hu⟩ := hx (s + m) (by omega)
    obtain ⟨w, hw⟩ := sum_one (p := p) (g := fun s' => x s' * mv n F s' (s + m)) hs fun s' hs' hne => by
      show p ∣ x s' * mv n F s' (s + m)
      rw [mv_get]
      have : s' < s := by omega
      rw [if_neg (by omega)]
      exact Int.dvd_mul_of_dvd_right (h.2 _ (by omega))
    have hw : cmb n x (mv n F) (s + m) - x s * mv n F s (s + m) = p * w := hw
    rw [hu, mv_get, if_neg (by omega), Nat.add_sub_cancel_left] at hw
    exact prm_mul hp (x := F.getD m 0) ⟨u - w, by grind⟩ h.1
  | succ d ih =>
    intro s hs hsd
    obtain ⟨u, hu⟩ := hx (s + m) (by omega)
    obtain ⟨w, hw⟩ := sum_one (p := p) (g := fun s' => x s' * mv n F s' (s + m)) hs fun s' hs' hne => by
      show p ∣ x s' * mv n F s' (s + m)
      rcases Nat.lt_or_ge s' s with q | q
      · rw [mv_get, if_neg (by omega)]
        exact Int.dvd_mul_of_dvd_right (h.2 _ (by omega))
      · exact Int.dvd_mul_of_dvd_left (ih s' hs' (by omega))
    have hw : cmb n x (mv n F) (s + m) - x s * mv n F s (s + m) = p * w := hw
    rw [hu, mv_get, if_neg (by omega), Nat.add_sub_cancel_left] at hw
    exact prm_mul hp (x := F.getD m 0) ⟨u - w, by grind⟩ h.1
end FS
set_option Elab.async false
set_option linter.all false
set_option maxRecDepth 100000
/-! FsLin9: which places the beginnings tell. -/
namespace FS
def knB (p : Int) (P : List (Int × Nat)) (k t : Nat) : Bool :=
  if k ≤ (P.map (·.2)).sum then true else decide (∀ a, a < t + 1 → t + 1 ≤ a + (k - (P.map (·.2)).sum) → (prv p P [1]).getD a 0 = 0)
theorem bgn_mem {p : Int} {k : Nat} {P : List (Int × Nat)} {r : Rw} (h : r ∈ bgn p k P) : ∃ q ∈ P, ∃ j, j < q.2 ∧ r = eqR p k q.1 j := by
  unfold bgn at h
  obtain ⟨l, hl, hr⟩ := List.mem_flatten.mp h
  obtain ⟨q, hq, rfl⟩ := List.mem_map.mp hl
  obtain ⟨j, hj, rfl⟩ := List.mem_map.mp hr
  exact ⟨q, hq, j, by simpa using hj, rfl⟩
theorem mv_ker {p : Int} {k n s : Nat} {P : List (Int × Nat)} (hp : 2 ≤ p) (hn : n + (P.map (·.2)).sum = k) (hs : s < n) : Ker p k (bgn p k P) (mv n (prv p P [1]) s) := fun r hr => by
  obtain ⟨q, hq, j, hj, rfl⟩ := bgn_mem hr
  have hl := prv_len p P [1] (Nat.le_refl 1)
  rw [show ([1] : List Int).length = 1 from rfl] at hl
  exact prv_dot hp hq hj s (n - 1 - s) (by omega)
theorem knB_iff {p : Int} {k t : Nat} {P : List (Int × Nat)} {left found left' found' : List Rw} {cols cols' : List Nat} (hp : prm p) (hP : PtsOk p P) (hne : P ≠ []) (ht : t < k)
    (h : El p k (bgn p k P) k left found cols) (h' : El p k (bgn p k P ++ [uR k t]) k left' found' cols') : (cols'.length = cols.length) ↔ knB p P k t = true := by
  have c1 := h.cl
  have c2 := h'.cl
  rw [c1, c2]
  unfold knB
  by_cases hs : k ≤ (P.map (·.2)).sum
  · rw [if_pos hs]
    have k1 := bgn_ker hp hP hs
    have k2 : KerT p k (bgn p k P ++ [uR k t]) := fun v hv => k1 v fun r hr => hv r (List.mem_append_left _ hr)
    rw [h.onto hp.1 k1, h'.onto hp.1 k2]
    simp
  · rw [if_neg hs]
    have hr := rank_min hp hP hne (List.Perm.refl _) h
    rw [c1, Nat.min_eq_left (by omega)] at hr
    have hl := prv_len p P [1] (Nat.le_refl 1)
    rw [show ([1] : List Int).length = 1 from rfl] at hl
    have hb : Bl p (prv p P [1]) := prv_bl (by have := hp.1; omega) P [1] fun x hx => by
      have : x = 1 := by simpa using hx
      have := hp.1
      omega
    obtain ⟨m, hT⟩ := Top.pr P (top_one hp.1)
    rw [decide_eq_true_eq]
    constructor
    · intro he a ha hn
      refine Classical.byContradiction fun h0 => ?_
      have hb0 : ¬ p ∣ mv (k - (P.map (·.2)).sum) (prv p P [1]) (t - a) t := by
        rw [mv_get, if_neg (by omega), show t - (t - a) = a by omega]
        have hal : a < (prv p P [1]).length := by
          refine Classical.byContradiction fun hge => h0 (getD_out (by omega))
        have hm : (prv p P [1]).getD a 0 ∈ prv p P [1] := by
          rw [List.getD_eq_getElem?_getD, List.getElem?_eq_getElem hal]
          exact List.getElem_mem hal
        have h1 := hb _ hm
        intro hd
        obtain ⟨c, hc⟩ := hd
        refine h0 ?_
        rw [hc] at h1 ⊢
        rcases Int.lt_trichotomy c 0 with q | q | q
        · have := Int.mul_neg_of_pos_of_neg (show 0 < p by have := hp.1; omega) q
          omega
        · rw [q, Int.mul_zero]
        · have := Int.mul_le_mul_of_nonneg_left (show 1 ≤ c by omega) (show 0 ≤ p by have := hp.1; omega)
          omega
      have := rank_more hp (bgn_ind hp hP hne (by omega)) h h' ht (mv_ker hp.1 (by omega) (show t - a < k - (P.map (·.2)).sum by omega)) hb0
      omega
    · intro hk
      refine rank_same hp h h' ht (n := k - (P.map (·.2)).sum) (B := mv (k - (P.map (·.2)).sum) (prv p P [1])) (by omega) (fun s hs => mv_ker hp.1 (by omega) hs) (fun x hx => mv_indep hp hT (by omega) x hx) fun s hs => ?_
      rw [mv_get]
      split
      · exact ⟨0, by simp⟩
      · rw [hk (t - s) (by omega) (by omega)]
        exact ⟨0, by simp⟩
def knL (p : Int) (P : List (Int × Nat)) (k : Nat) : List Nat := (List.range k).filter (knB p P k)
end FS
set_option Elab.async false
set_option linter.all false
set_option maxRecDepth 100000
/-! FsCnt: how many batches have the same beginnings. -/
namespace FS
def allB (p : Nat) : Nat → List (List Int)
  | 0 => [[]]
  | k + 1 => ((allB p k).map fun b => (List.range p).map fun (n : Nat) => b ++ [(n : Int)]).flatten
theorem allB_mem {p : Nat} : ∀ {k : Nat} {b : List Int}, b ∈ allB p k ↔ b.length = k ∧ ∀ x ∈ b, 0 ≤ x ∧ x < p
  | 0, b => by
    unfold allB
    rw [List.mem_singleton]
    constructor
    · rintro rfl
      exact ⟨rfl, fun x h => by cases h⟩
    · exact fun h => List.length_eq_zero_iff.mp h.1
  | k + 1, b => by
    unfold allB
    rw [List.mem_flatten]
    constructor
    · rintro ⟨l, hl, hb⟩
      obtain ⟨a, ha, rfl⟩ := List.mem_map.mp hl
      obtain ⟨n, hn, rfl⟩ := List.mem_map.mp hb
      obtain ⟨h1, h2⟩ := allB_mem.mp ha
      refine ⟨by simp [h1], fun x hx => ?_⟩
      rcases List.mem_append.mp hx with q | q
      · exact h2 x q
      · have : x = n := by simpa using q
        have := List.mem_range.mp hn
        omega
    · rintro ⟨h1, h2⟩
      have hne : b ≠ [] := fun e => by rw [e] at h1; simp at h1
      have hx := h2 (b.getLast hne) (List.getLast_mem hne)
      refine ⟨_, List.mem_map.mpr ⟨b.dropLast, allB_mem.mpr ⟨by simp [h1], fun x q => h2 x ((List.dropLast_sublist b).subset q)⟩, rfl⟩, List.mem_map.mpr ⟨(b.getLast hne).toNat, List.mem_range.mpr (by omega), ?_⟩⟩
      rw [Int.toNat_of_nonneg hx.1]
      exact List.dropLast_concat_getLast hne
theorem allB_len (p : Nat) : ∀ k, (allB p k).length = p ^ k
  | 0 => rfl
  | k + 1 => by
    unfold allB
    rw [List.length_flatten, List.map_map]
    have e : (List.length ∘ fun b : List Int => (List.range p).map fun (n : Nat) => b ++ [(n : Int)]) = fun _ => p := by
      funext b
      simp
    rw [e]
    have : ∀ l : List (List Int), (l.map fun _ => p).sum = l.length * p := fun l => by
      induction l with
      | nil => simp
      | cons a l ih => rw [List.map_cons, List.sum_cons, ih, List.length_cons, Nat.succ_mul]; omega
    rw [this, allB_len p k, Nat.pow_succ]
theorem allB_nd (p : Nat) : ∀ k, (allB p k).Nodup
  | 0 => by simp [allB]
  | k + 1 => by
    unfold allB
    refine List.pairwise_flatten.mpr ⟨fun l hl => ?_, ?_⟩
    · obtain ⟨b, _, rfl⟩ := List.mem_map.mp hl
      refine List.pairwise_map.mpr (List.Pairwise.imp (fun {x y} h e => h ?_) List.nodup_range)
      have := (List.append_inj' e rfl).2
      have : (x : Int) = y := by simpa using this
      omega
    · refine List.pairwise_map.mpr (List.Pairwise.imp (fun {x y} h u hu v hv e => h ?_) (allB_nd p k))
      obtain ⟨n, _, rfl⟩ := List.mem_map.mp hu
      obtain ⟨m, _, rfl⟩ := List.mem_map.mp hv
      exact (List.append_inj' e rfl).1
theorem inj_len {α β : Type} : ∀ {l1 : List α} {l2 : List β} (f : α → β), l1.Nodup → (∀ x ∈ l1, f x ∈ l2) → (∀ x ∈ l1, ∀ y ∈ l1, f x = f y → x = y) → l1.length ≤ l2.length
  | [], _, _, _, _, _ => Nat.zero_le _
  | x :: l1, l2, f, nd, hm, hi => by
    obtain ⟨s, t, rfl⟩ := List.append_of_mem (hm x List.mem_cons_self)
    obtain ⟨n1, n2⟩ := List.nodup_cons.mp nd
    have := inj_len (l2 := s ++ t) f n2 (fun y hy => by
      have := hm y (List.mem_cons_of_mem _ hy)
      rcases List.mem_append.mp this with q | q
      · exact List.mem_append_left _ q
      · rcases List.mem_cons.mp q with q | q
        · exact absurd (hi y (List.mem_cons_of_mem _ hy) x List.mem_cons_self q) (fun e => n1 (e ▸ hy))
        · exact List.mem_append_right _ q) fun y hy z hz => hi y (List.mem_cons_of_mem _ hy) z (List.mem_cons_of_mem _ hz)
    rw [List.length_append] at this ⊢
    simp only [List.length_cons]
    omega
/-- a batch and a vector -/
def addM (p : Int) (k : Nat) (f : List Int) (v : Nat → Int) : List Int := (List.range k).map fun t => (f.getD t 0 + v t) % p
theorem addM_get {p : Int} {k t : Nat} {f : List Int} {v : Nat → Int} (h : t < k) : (addM p k f v).getD t 0 = (f.getD t 0 + v t) % p := map_getD h
theorem addM_mem {p : Nat} {k : Nat} {f : List Int} {v : Nat → Int} (hp : 0 < p) : addM p k f v ∈ allB p k := allB_mem.mpr ⟨by simp [addM], fun x hx => by
  obtain ⟨t, _, rfl⟩ := List.mem_map.mp hx
  exact ⟨Int.emod_nonneg _ (by omega), Int.emod_lt_of_pos _ (by omega)⟩⟩
theorem getD_rg {p : Nat} {k t : Nat} {f : List Int} (hf : f ∈ allB p k) (ht : t < k) : 0 ≤ f.getD t 0 ∧ f.getD t 0 < p := by
  obtain ⟨h1, h2⟩ := allB_mem.mp hf
  refine h2 _ ?_
  rw [List.getD_eq_getElem?_getD, List.getElem?_eq_getElem (by omega)]
  exact List.getElem_mem _
theorem allB_ext {p k : Nat} {f g : List Int} (hf : f ∈ allB p k) (hg : g ∈ allB p k) (h : ∀ t, t < k → (p : Int) ∣ f.getD t 0 - g.getD t 0) : f = g := by
  have l1 := (allB_mem.mp hf).1
  have l2 := (allB_mem.mp hg).1
  refine List.ext_getElem (by omega) fun t h1 h2 => ?_
  obtain ⟨u, hu⟩ := h t (by omega)
  have := in_range_eq (getD_rg hf (by omega)) (getD_rg hg (by omega)) hu
  rw [List.getD_eq_getElem?_getD, List.getD_eq_getElem?_getD, List.getElem?_eq_getElem h1, List.getElem?_eq_getElem h2] at this
  exact this
theorem emod_dvd (a p : Int) : p ∣ a % p - a := ⟨-(a / p), by
  have := Int.mul_ediv_add_emod a p
  grind⟩
theorem ker_dvd {p : Int} {k : Nat} {L : List Rw} {v w : Nat → Int} (h : Ker p k L v) (hw : ∀ t, t < k → p ∣ w t - v t) : Ker p k L w := fun r hr => by
  obtain ⟨a, ha⟩ := h r hr
  obtain ⟨b, hb⟩ := sum_dvd (p := p) (k := k) (g := fun t => r.getD t 0 * w t) (h := fun t => r.getD t 0 * v t) fun t ht => by
    obtain ⟨c, hc⟩ := hw t ht
    exact ⟨r.getD t 0 * c, by grind⟩
  have hb : dotv k r w - dotv k r v = p * b := hb
  exact ⟨a + b, by rw [ha] at hb; grind⟩
theorem ker_add {p : Int} {k : Nat} {L : List Rw} {v w : Nat → Int} {c : Int} (h1 : Ker p k L v) (h2 : Ker p k L w) : Ker p k L fun t => c * v t + w t := fun r hr => by
  obtain ⟨a, ha⟩ := h1 r hr
  obtain ⟨b, hb⟩ := h2 r hr
  have := sum_lin c (fun t => r.getD t 0 * v t) (fun t => r.getD t 0 * w t) k
  have e : dotv k r (fun t => c * v t + w t) = c * dotv k r v + dotv k r w := by
    unfold dotv
    rw [← this]
    exact sum_same fun t => by grind
  exact ⟨c * a + b, by rw [e, ha, hb]; grind⟩
section
variable {p k : Nat} {P : List (Int × Nat)} {f : List Int} {al : List Int → Bool}
/-- the batches that weigh as f does -/
structure Alk (p k : Nat) (P : List (Int × Nat)) (f : List Int) (al : List Int → Bool) : Prop where
  pr : prm p
  pts : PtsOk p P
  ne : P ≠ []
  le : (P.map (·.2)).sum ≤ k
  mem : f ∈ allB p k
  iff_ : ∀ g ∈ allB p k, al g = true ↔ Ker p k (bgn p k P) fun t => g.getD t 0 - f.getD t 0
theorem Alk.shift (h : Alk p k P f al) {g : List Int} {v : Nat → Int} (hg : g ∈ (allB p k).filter al) (hv : Ker p k (bgn p k P) v) : addM p k g v ∈ (allB p k).filter al := by
  have hp := h.pr.1
  obtain ⟨g1, g2⟩ := List.mem_filter.mp hg
  refine List.mem_filter.mpr ⟨addM_mem (by omega), (h.iff_ _ (addM_mem (by omega))).mpr ?_⟩
  refine ker_dvd (ker_add (c := 1) hv ((h.iff_ g g1).mp g2)) fun t ht => ?_
  rw [addM_get ht]
  obtain ⟨u, hu⟩ := emod_dvd (g.getD t 0 + v t) p
  exact ⟨u, by grind⟩
theorem ker_zero {p : Int} {k : Nat} {L : List Rw} {v : Nat → Int} (h : ∀ t, t < k → p ∣ v t) : Ker p k L v := fun r _ => by
  obtain ⟨a, ha⟩ := sum_dvd (p := p) (k := k) (g := fun t => r.getD t 0 * v t) (h := fun _ => 0) fun t ht => by
    obtain ⟨c, hc⟩ := h t ht
    exact ⟨r.getD t 0 * c, by rw [hc]; grind⟩
  rw [sum_nil] at ha
  exact ⟨a, by have ha : dotv k r v - 0 = p * a := ha; omega⟩
theorem Alk.self (h : Alk p k P f al) : f ∈ (allB p k).filter al := List.mem_filter.mpr ⟨h.mem, (h.iff_ f h.mem).mpr (ker_zero fun t _ => ⟨0, by grind⟩)⟩
theorem Alk.diff (h : Alk p k P f al) {g g' : List Int} (hg : g ∈ (allB p k).filter al) (hg' : g' ∈ (allB p k).filter al) : Ker p k (bgn p k P) fun t => g.getD t 0 - g'.getD t 0 := by
  obtain ⟨g1, g2⟩ := List.mem_filter.mp hg
  obtain ⟨g3, g4⟩ := List.mem_filter.mp hg'
  refine ker_dvd (ker_add (c := -1) ((h.iff_ g' g3).mp g4) ((h.iff_ g g1).mp g2)) fun t ht => ⟨0, by grind⟩
theorem Alk.upper (h : Alk p k P f al) : ((allB p k).filter al).length ≤ p ^ (k - (P.map (·.2)).sum) := by
  obtain ⟨left, found, cols, he⟩ := El.ex h.pr (bgn p k P) k (Nat.le_refl _)
  have hr := rank_min h.pr h.pts h.ne (List.Perm.refl _) he
  rw [Nat.min_eq_left h.le] at hr
  have hb := he.bes_len
  have hc := he.cl
  have h1 := inj_len (l1 := (allB p k).filter al) (l2 := allB p (bes k cols).length) (fun g => (bes k cols).map fun t => g.getD t 0) ((allB_nd p k).filter _) (fun g hg => allB_mem.mpr ⟨by simp, fun x hx => by
    obtain ⟨t, ht, rfl⟩ := List.mem_map.mp hx
    exact getD_rg (List.mem_filter.mp hg).1 (bes_mem.mp ht).1⟩) fun g hg g' hg' e => by
    refine allB_ext (List.mem_filter.mp hg).1 (List.mem_filter.mp hg').1 (he.det (h.diff hg hg') fun t ht hm => ?_)
    have := List.map_inj_left.mp e t (bes_mem.mpr ⟨ht, hm⟩)
    exact ⟨0, by rw [this]; grind⟩
  rw [allB_len] at h1
  exact Nat.le_trans h1 (Nat.pow_le_pow_right (by have := h.pr.1; omega) (by omega))
theorem cmb_sub {n : Nat} {x y : Nat → Int} {B : Nat → Nat → Int} {t : Nat} : cmb n (fun s => x s - y s) B t = cmb n x B t - cmb n y B t := by
  have := sum_lin (-1) (fun s => y s * B s t) (fun s => x s * B s t) n
  unfold cmb
  rw [show (fun s => (x s - y s) * B s t) = fun s => -1 * (y s * B s t) + x s * B s t from by funext s; grind, this]
  omega
theorem Alk.lower (h : Alk p k P f al) : p ^ (k - (P.map (·.2)).sum) ≤ ((allB p k).filter al).length := by
  have hp := h.pr.1
  have hle := h.le
  have hF := prv_len p P [1] (Nat.le_refl 1)
  rw [show ([1] : List Int).length = 1 from rfl] at hF
  obtain ⟨m, hT⟩ := Top.pr P (top_one hp)
  rw [← allB_len p]
  generalize hn : k - (P.map (·.2)).sum = n
  have hker : ∀ x : Nat → Int, Ker p k (bgn p k P) (cmb n x (mv n (prv p P [1]))) := fun x r hr => by
    rw [dot_cmb]
    exact sum_dv fun s hs => Int.dvd_mul_of_dvd_right (mv_ker hp (by omega) hs r hr)
  refine inj_len (fun x => addM p k f (cmb n (fun s => x.getD s 0) (mv n (prv p P [1])))) (allB_nd p n) (fun x _ => h.shift h.self (hker _)) fun x hx y hy e => ?_
  refine allB_ext hx hy (mv_indep (k := k) h.pr hT (by omega) (fun s => x.getD s 0 - y.getD s 0) fun t ht => ?_)
  rw [cmb_sub]
  have e1 : (addM p k f (cmb n (fun s => x.getD s 0) (mv n (prv p P [1])))).getD t 0 = (addM p k f (cmb n (fun s => y.getD s 0) (mv n (prv p P [1])))).getD t 0 := congrArg (fun l : List Int => l.getD t 0) e
  rw [addM_get ht, addM_get ht] at e1
  obtain ⟨a, ha⟩ := emod_dvd (f.getD t 0 + cmb n (fun s => x.getD s 0) (mv n (prv p P [1])) t) p
  obtain ⟨b, hb⟩ := emod_dvd (f.getD t 0 + cmb n (fun s => y.getD s 0) (mv n (prv p P [1])) t) p
  exact ⟨b - a, by grind⟩
theorem Alk.count (h : Alk p k P f al) : ((allB p k).filter al).length = p ^ (k - (P.map (·.2)).sum) := Nat.le_antisymm h.upper h.lower
/-- what is told is alike -/
theorem Alk.told (h : Alk p k P f al) {t : Nat} (ht : t < k) (hk : knB p P k t = true) {g : List Int} (hg : g ∈ (allB p k).filter al) : g.getD t 0 = f.getD t 0 := by
  obtain ⟨left, found, cols, he⟩ := El.ex h.pr (bgn p k P) k (Nat.le_refl _)
  obtain ⟨left', found', cols', he'⟩ := El.ex h.pr (bgn p k P ++ [uR k t]) k (Nat.le_refl _)
  have hr := (knB_iff h.pr h.pts h.ne ht he he').mpr hk
  rw [he.cl, he'.cl] at hr
  refine Classical.byContradiction fun hne => ?_
  have hv := h.diff hg h.self
  have := rank_more h.pr (bgn_ind h.pr h.pts h.ne h.le) he he' ht hv fun ⟨u, hu⟩ => hne (in_range_eq (getD_rg (List.mem_filter.mp hg).1 ht) (getD_rg h.mem ht) hu)
  omega
/-- at what is not told each number comes equally often -/
theorem Alk.even (h : Alk p k P f al) {t : Nat} (ht : t < k) (hk : knB p P k t = false) {r r' : Int} (hr' : 0 ≤ r' ∧ r' < p) :
    (((allB p k).filter al).filter fun g => decide (g.getD t 0 = r)).length ≤ (((allB p k).filter al).filter fun g => decide (g.getD t 0 = r')).length := by
  have hp := h.pr.1
  have hle := h.le
  have hF := prv_len p P [1] (Nat.le_refl 1)
  rw [show ([1] : List Int).length = 1 from rfl] at hF
  have hb : Bl p (prv p P [1]) := prv_bl (by omega) P [1] fun x hx => by
    have : x = 1 := by simpa using hx
    omega
  -- a vector of the kernel that is not 0 at t
  obtain ⟨v, hv, hv0⟩ : ∃ v, Ker p k (bgn p k P) v ∧ ¬ (p : Int) ∣ v t := by
    unfold knB at hk
    by_cases hs : k ≤ (P.map (·.2)).sum
    · rw [if_pos hs] at hk
      cases hk
    · rw [if_neg hs, decide_eq_false_iff_not] at hk
      obtain ⟨a, ha⟩ := Classical.not_forall.mp hk
      obtain ⟨ha1, ha⟩ := Classical.not_forall.mp ha
      obtain ⟨ha2, ha3⟩ := Classical.not_forall.mp ha
      refine ⟨mv (k - (P.map (·.2)).sum) (prv p P [1]) (t - a), mv_ker hp (by omega) (by omega), ?_⟩
      rw [mv_get, if_neg (by omega), show t - (t - a) = a by omega]
      intro hd
      have hal : a < (prv p P [1]).length := Classical.byContradiction fun hge => ha3 (getD_out (by omega))
      have hm : (prv p P [1]).getD a 0 ∈ prv p P [1] := by
        rw [List.getD_eq_getElem?_getD, List.getElem?_eq_getElem hal]
        exact List.getElem_mem hal
      obtain ⟨c, hc⟩ := hd
      have h0 : (0 : Int) ≤ 0 ∧ (0 : Int) < p := ⟨Int.le_refl _, by omega⟩
      exact ha3 (in_range_eq (hb _ hm) h0 (by rw [Int.sub_zero]; exact hc))
  obtain ⟨i, hi⟩ := prm_gcd1 h.pr hv0
  refine inj_len (fun g => addM p k g fun s => (r' - r) * i * v s) (((allB_nd p k).filter _).filter _) (fun g hg => ?_) fun g hg g' hg' e => ?_
  · obtain ⟨g1, g2⟩ := List.mem_filter.mp hg
    have g2 : g.getD t 0 = r := of_decide_eq_true g2
    refine List.mem_filter.mpr ⟨h.shift g1 (ker_dvd (ker_add (c := (r' - r) * i) hv (ker_zero (v := fun _ => 0) fun _ _ => ⟨0, by grind⟩)) fun t _ => ⟨0, by grind⟩), decide_eq_true ?_⟩
    rw [addM_get ht, g2]
    obtain ⟨u, hu⟩ := hi
    have e : r + (r' - r) * i * v t = r' + p * ((r' - r) * u) := by grind
    rw [e, Int.add_mul_emod_self_left, Int.emod_eq_of_lt hr'.1 hr'.2]
  · have g1 := (List.mem_filter.mp (List.mem_filter.mp hg).1).1
    have g1' := (List.mem_filter.mp (List.mem_filter.mp hg').1).1
    refine allB_ext g1 g1' fun s hs => ?_
    have e1 : (addM p k g fun s => (r' - r) * i * v s).getD s 0 = (addM p k g' fun s => (r' - r) * i * v s).getD s 0 := congrArg (fun l : List Int => l.getD s 0) e
    rw [addM_get hs, addM_get hs] at e1
    obtain ⟨a, ha⟩ := emod_dvd (g.getD s 0 + (r' - r) * i * v s) p
    obtain ⟨b, hb⟩ := emod_dvd (g'.getD s 0 + (r' - r) * i * v s) p
    exact ⟨b - a, by grind⟩
theorem count_sum (p t : Nat) : ∀ L : List (List Int), (∀ g ∈ L, 0 ≤ g.getD t 0 ∧ g.getD t 0 < p) → ((List.range p).map fun (r : Nat) => (L.filter fun g => decide (g.getD t 0 = (r : Int))).length).sum = L.length
  | [], _ => by
    have : ∀ l : List Nat, (l.map fun (r : Nat) => (([] : List (List Int)).filter fun g => decide (g.getD t 0 = (r : Int))).length).sum = 0 := fun l => by
      induction l with
      | nil => rfl
      | cons a l ih => rw [List.map_cons, List.sum_cons, ih]; rfl
    rw [this]
    rfl
  | g :: L, h => by
    have ih := count_sum p t L fun g' hg' => h g' (List.mem_cons_of_mem _ hg')
    obtain ⟨h1, h2⟩ := h g List.mem_cons_self
    have key : ∀ n : Nat, ((List.range n).map fun (r : Nat) => ((g :: L).filter fun g => decide (g.getD t 0 = (r : Int))).length).sum = ((List.range n).map fun (r : Nat) => (L.filter fun g => decide (g.getD t 0 = (r : Int))).length).sum + if (g.getD t 0 < (n : Int)) then 1 else 0 := fun n => by
      induction n with
      | zero => rw [if_neg (by omega)]; rfl
      | succ n ihn =>
        rw [List.range_succ, List.map_append, List.map_append, List.sum_append, List.sum_append, ihn]
        simp only [List.map_cons, List.map_nil, List.sum_cons, List.sum_nil, Nat.add_zero, List.filter_cons]
        have e1 : (if decide (g.getD t 0 = (n : Int)) = true then g :: L.filter (fun g => decide (g.getD t 0 = (n : Int))) else L.filter (fun g => decide (g.getD t 0 = (n : Int)))).length = (L.filter fun g => decide (g.getD t 0 = (n : Int))).length + if g.getD t 0 = (n : Int) then 1 else 0 := by
          by_cases q : g.getD t 0 = (n : Int)
          · rw [if_pos (decide_eq_true q), if_pos q, List.length_cons]
          · rw [if_neg (by rw [decide_eq_true_eq]; exact q), if_neg q, Nat.add_zero]
        have e2 : (if g.getD t 0 < (n : Int) then 1 else 0) + (if g.getD t 0 = (n : Int) then 1 else 0) = if g.getD t 0 < ((n + 1 : Nat) : Int) then 1 else 0 := by
          split <;> split <;> split <;> omega
        rw [e1, ← e2]
        omega
    rw [key p, ih, if_pos h2]
    rfl
theorem Alk.each (h : Alk p k P f al) {t : Nat} (ht : t < k) (hk : knB p P k t = false) {r : Int} (hr : 0 ≤ r ∧ r < p) :
    (((allB p k).filter al).filter fun g => decide (g.getD t 0 = r)).length = p ^ (k - (P.map (·.2)).sum) / p := by
  have hp := h.pr.1
  have hs := count_sum p t ((allB p k).filter al) fun g hg => getD_rg (List.mem_filter.mp hg).1 ht
  rw [h.count] at hs
  have hc : ∀ a : Nat, a < p → (((allB p k).filter al).filter fun g => decide (g.getD t 0 = (a : Int))).length = (((allB p k).filter al).filter fun g => decide (g.getD t 0 = r)).length := fun a ha => Nat.le_antisymm (h.even ht hk hr) (h.even ht hk (by omega))
  generalize (((allB p k).filter al).filter fun g => decide (g.getD t 0 = r)).length = c at hc
  have hs2 : ∀ n : Nat, n ≤ p → ((List.range n).map fun (a : Nat) => (((allB p k).filter al).filter fun g => decide (g.getD t 0 = (a : Int))).length).sum = n * c := fun n => by
    induction n with
    | zero => intro _; simp
    | succ n ih =>
      intro hn
      rw [List.range_succ, List.map_append, List.sum_append, ih (by omega)]
      simp only [List.map_cons, List.map_nil, List.sum_cons, List.sum_nil, Nat.add_zero]
      rw [hc n (by omega), Nat.succ_mul]
  rw [hs2 p (Nat.le_refl _)] at hs
  rw [← hs, Nat.mul_div_cancel_left _ (by omega)]
end
end FS
set_option Elab.async false
set_option linter.all false
set_option maxRecDepth 100000
/-! K53Den: the defs of law_k53_whole_known_early as data (printed by our gen.py) -/
namespace FS
open PySem L2
/-- _law_pool(_law_script); names: 0 _law_script, 1 _law_first, 2 _law_size -/
@[irreducible] noncomputable def body__law_pool : Cd Flw := dSeq (dSet 1 (dIfE (dB (dOp pGt (dFn fLen (dCons (dUse 0) (dNil))) (ret (.int 0)))) (dFn fInt (dCons (dOp pIx (dUse 0) (ret (.int 0))) (dNil))) (ret (.int 0)))) (dSeq (dSet 2 (dIfE (dB (dOp pGe (dUse 1) (ret (.int 0)))) (dOp pMul (ret (.int 2)) (dUse 1)) (dOp pSub (dUn pNeg (ret (.int 1))) (dOp pMul (ret (.int 2)) (dUse 1))))) (dRet (dNew (dDisp (dCons (dIfE (dB (dOp pGe (dUse 2) (dOp pPow (ret (.int 10)) (ret (.int 18))))) (dUse 2) (ret (.int 0))) (dCons (dOp pAdd (dOp pMod (dFn fInt (dCons (dOp pAdd (dOp pMul (dUse 2) (ret (.int 48271))) (ret (.int 1009))) (dNil))) (ret (.int 2147483629))) (ret (.int 3))) (dCons (dNew (dListF (dCut (dUse 0) (dPart (ret (.int 1))) (dNoPart)))) (dNil))))))))
@[irreducible] noncomputable def den__law_pool : List PV → Stt → Res := runD 3 1 body__law_pool
/-- _law_draw(_law_pool_here, _law_many); names: 0 _law_pool_here, 1 _law_many, 2 _law_cell, 3 _law_size, 4 _law_found -/
@[irreducible] noncomputable def body__law_draw : Cd Flw := dSeq (dIf (dAndT (dB (dOp pEq (dOp pIx (dUse 0) (ret (.int 0))) (ret (.int 0)))) (dB (dOp pNe (dOp pIx (dUse 0) (ret (.int 2))) (dFrz (dDisp (dNil)))))) (dSeq (dSet 2 (dFn fInt (dCons (dMthR mPopAt (dOp pIx (dUse 0) (ret (.int 2))) (dCons (ret (.int 0)) (dNil))) (dNil)))) (dSeq (dSet 3 (dIfE (dB (dOp pGe (dUse 2) (ret (.int 0)))) (dOp pMul (ret (.int 2)) (dUse 2)) (dOp pSub (dUn pNeg (ret (.int 1))) (dOp pMul (ret (.int 2)) (dUse 2))))) (dSeq (dSetR (dUse 0) (ret (.int 0)) (dIfE (dB (dOp pGe (dUse 3) (dOp pPow (ret (.int 10)) (ret (.int 18))))) (dUse 3) (ret (.int 0)))) (dSetR (dUse 0) (ret (.int 1)) (dOp pAdd (dOp pMod (dFn fInt (dCons (dOp pAdd (dOp pIx (dUse 0) (ret (.int 1))) (dOp pMul (dUse 3) (ret (.int 69621)))) (dNil))) (ret (.int 2147483629))) (ret (.int 3))))))) (nxt)) (dSeq (dIf (dB (dOp pGt (dOp pIx (dUse 0) (ret (.int 0))) (ret (.int 0)))) (dSeq (dSet 4 (dOp pMod (dFn fInt (dCons (dOp pIx (dUse 0) (ret (.int 0))) (dNil))) (dUse 1))) (dSeq (dSetR (dUse 0) (ret (.int 0)) (dOp pDiv (dOp pIx (dUse 0) (ret (.int 0))) (dUse 1))) (dRet (dUse 4)))) (nxt)) (dSeq (dSetR (dUse 0) (ret (.int 1)) (dOp pMod (dFn fInt (dCons (dOp pAdd (dOp pMul (dOp pIx (dUse 0) (ret (.int 1))) (ret (.int 48271))) (ret (.int 11))) (dNil))) (ret (.int 2147483647)))) (dRet (dOp pMod (dOp pDiv (dOp pMod (dFn fInt (dCons (dOp pMul (dOp pIx (dUse 0) (ret (.int 1))) (dOp pIx (dUse 0) (ret (.int 1)))) (dNil))) (ret (.int 2147483629))) (ret (.int 32))) (dUse 1)))))
@[irreducible] noncomputable def den__law_draw : List PV → Stt → Res := runD 5 2 body__law_draw
/-- _law_turned(_law_pool_here, _law_many); names: 0 _law_pool_here, 1 _law_many, 2 _law_left, 3 _law_found, 4 _law_turn -/
@[irreducible] noncomputable def body__law_turned : Cd Flw := dSeq (dOwnNil 2 3 (dRngL (dCons (dUse 1) dNil))) (dSeq (dFor (dRng1 (dCons (dUse 1) (dNil))) (gSet 4) (dDrop (dMthO 3 mAppend (dCons (dMthO 2 mPopAt (dCons (dCall 2 den__law_draw (dCons (dUse 0) (dCons (dLenO 2) (dNil)))) (dNil))) (dNil))))) (dRet (dUse 3)))
@[irreducible] noncomputable def den__law_turned : List PV → Stt → Res := runD 5 2 body__law_turned
/-- _law_lengths(_law_pool_here, _law_ground, _law_most); names: 0 _law_pool_here, 1 _law_ground, 2 _law_most, 3 _law_point -/
@[irreducible] noncomputable def body__law_lengths : Cd Flw := dRet (dFn fTuple (dCons (dFrz (dComp (dItems (dOp pIx (dUse 1) (ret (.int 2)))) [3] (gSet 3) (ret true) (dCall 2 den__law_draw (dCons (dUse 0) (dCons (dOp pAdd (dUse 2) (ret (.int 1))) (dNil)))))) (dNil)))
@[irreducible] noncomputable def den__law_lengths : List PV → Stt → Res := runD 4 3 body__law_lengths
/-- _law_batch(_law_pool_here, _law_ground); names: 0 _law_pool_here, 1 _law_ground, 2 _law_p, 3 _law_k, 4 _law_points, 5 _law_place, 6 _law_at -/
@[irreducible] noncomputable def body__law_batch : Cd Flw := dSeq (dAsg (dUse 1) (gTupD 3 (gsCons (gSet 2) (gsCons (gSet 3) (gsCons (gSet 4) (gsNil)))))) (dSeq (dIf (dB (dOp pGt (dCall 2 den__law_draw (dCons (dUse 0) (dCons (ret (.int 4)) (dNil)))) (ret (.int 0)))) (dRet (dFn fTuple (dCons (dFrz (dComp (dRng1 (dCons (dUse 3) (dNil))) [5] (gSet 5) (ret true) (dCall 2 den__law_draw (dCons (dUse 0) (dCons (dUse 2) (dNil)))))) (dNil)))) (nxt)) (dSeq (dSet 5 (dCall 2 den__law_draw (dCons (dUse 0) (dCons (dUse 3) (dNil))))) (dRet (dFn fTuple (dCons (dFrz (dComp (dRng1 (dCons (dUse 3) (dNil))) [6] (gSet 6) (ret true) (dIfE (dB (dOp pEq (dUse 6) (dUse 5))) (dOp pSub (dUse 2) (ret (.int 1))) (ret (.int 0))))) (dNil))))))
@[irreducible] noncomputable def den__law_batch : List PV → Stt → Res := runD 7 2 body__law_batch
/-- _law_written_out(_law_p, _law_form, _law_point); names: 0 _law_p, 1 _law_form, 2 _law_point, 3 _law_found, 4 _law_number, 5 _law_longer, 6 _law_at -/
@[irreducible] noncomputable def body__law_written_out : Cd Flw := dSeq (dIf (dB (dOp pEq (dUse 2) (dUse 0))) (dRet (dFrz (dListF (dUn pRev (dUse 1))))) (nxt)) (dSeq (dOwn 3 (dDisp (dNil))) (dSeq (dFor (dItems (dUn pRev (dUse 1))) (gSet 4) (dSeq (dSet 5 (dOp pAdd (dUse 3) (dFrz (dDisp (dCons (ret (.int 0)) (dNil)))))) (dSeq (dOwn 3 (dComp (dRng1 (dCons (dFn fLen (dCons (dUse 5) (dNil))) (dNil))) [6] (gSet 6) (ret true) (dOp pMod (dFn fInt (dCons (dOp pAdd (dOp pMul (dUse 2) (dOp pIx (dUse 5) (dUse 6))) (dIfE (dB (dOp pGt (dUse 6) (ret (.int 0)))) (dOp pIx (dUse 5) (dOp pSub (dUse 6) (ret (.int 1)))) (ret (.int 0)))) (dNil))) (dUse 0)))) (dSetO 3 (ret (.int 0)) (dOp pMod (dFn fInt (dCons (dOp pAdd (dIxO 3 (ret (.int 0))) (dUse 4)) (dNil))) (dUse 0)))))) (dRet (dUse 3))))
@[irreducible] noncomputable def den__law_written_out : List PV → Stt → Res := runD 7 3 body__law_written_out
/-- _law_begun(_law_ground, _law_batch_here, _law_lengths_here); names: 0 _law_ground, 1 _law_batch_here, 2 _law_lengths_here, 3 _law_found, 4 _law_point, 5 _law_length -/
@[irreducible] noncomputable def body__law_begun : Cd Flw := dSeq (dOwn 3 (dDisp (dNil))) (dSeq (dFor (dZipM (dCons (dOp pIx (dUse 0) (ret (.int 2))) (dCons (dUse 2) (dNil)))) (gTupD 2 (gsCons (gSet 4) (gsCons (gSet 5) (gsNil)))) (dDrop (dMthO 3 mAppend (dCons (dFn fTuple (dCons (dCut (dCall 3 den__law_written_out (dCons (dOp pIx (dUse 0) (ret (.int 0))) (dCons (dUse 1) (dCons (dUse 4) (dNil))))) (dNoPart) (dPart (dUse 5))) (dNil))) (dNil))))) (dRet (dFn fTuple (dCons (dUse 3) (dNil)))))
@[irreducible] noncomputable def den__law_begun : List PV → Stt → Res := runD 6 3 body__law_begun
/-- _law_listed(_law_p, _law_k); names: 0 _law_p, 1 _law_k, 2 _law_found, 3 _law_turn, 4 _law_longer, 5 _law_batch_here, 6 _law_number -/
@[irreducible] noncomputable def body__law_listed : Cd Flw := dSeq (dSet 2 (dFrz (dDisp (dCons (dTup (dNil)) (dNil))))) (dSeq (dFor (dRng1 (dCons (dUse 1) (dNil))) (gSet 3) (dSeq (dOwn 4 (dDisp (dNil))) (dSeq (dFor (dItems (dUse 2)) (gSet 5) (dDrop (dMthO 4 mExtend (dCons (dFrz (dComp (dRng1 (dCons (dUse 0) (dNil))) [6] (gSet 6) (ret true) (dOp pAdd (dUse 5) (dTup (dCons (dUse 6) (dNil)))))) (dNil))))) (dSet 2 (dUse 4))))) (dRet (dUse 2)))
@[irreducible] noncomputable def den__law_listed : List PV → Stt → Res := runD 7 2 body__law_listed
/-- is_whole(thing, low, high); names: 0 thing, 1 low, 2 high -/
@[irreducible] noncomputable def body_is_whole : Cd Flw := dRet (dAndV (dFn fIsi (dCons (dUse 0) (dCons (ret (.raw (.ty "int"))) (dNil)))) (dAndV (dNotV (dFn fIsi (dCons (dUse 0) (dCons (ret (.raw (.ty "bool"))) (dNil))))) (dChain pLe pLe (dUse 1) (dUse 0) (dUse 2))))
@[irreducible] noncomputable def den_is_whole : List PV → Stt → Res := runD 3 3 body_is_whole
/-- is_prime(n); names: 0 n, 1 divisor -/
@[irreducible] noncomputable def body_is_prime : Cd Flw := dSeq (dIf (dNotT (dTru (dCall 3 den_is_whole (dCons (dUse 0) (dCons (ret (.int 2)) (dCons (ret (.int 65521)) (dNil))))))) (dRet (ret (.bl false))) (nxt)) (dSeq (dSet 1 (ret (.int 2))) (dSeq (dWhile (dB (dOp pLe (dOp pMul (dUse 1) (dUse 1)) (dUse 0))) (dSeq (dIf (dB (dOp pEq (dOp pMod (dUse 0) (dUse 1)) (ret (.int 0)))) (dRet (ret (.bl false))) (nxt)) (dSet 1 (dOp pAdd (dUse 1) (ret (.int 1)))))) (dRet (ret (.bl true)))))
@[irreducible] noncomputable def den_is_prime : List PV → Stt → Res := runD 2 1 body_is_prime
/-- are_points(p, thing); names: 0 p, 1 thing, 2 index -/
@[irreducible] noncomputable def body_are_points : Cd Flw := dSeq (dIf (dOrT (dNotT (dTru (dFn fIsi (dCons (dUse 1) (dCons (ret (.raw (.ty "tuple"))) (dNil)))))) (dNotT (dB (dChain pLe pLe (ret (.int 1)) (dFn fLen (dCons (dUse 1) (dNil))) (ret (.int 8)))))) (dRet (ret (.bl false))) (nxt)) (dSeq (dFor (dRng1 (dCons (dFn fLen (dCons (dUse 1) (dNil))) (dNil))) (gSet 2) (dIf (dOrT (dNotT (dTru (dCall 3 den_is_whole (dCons (dOp pIx (dUse 1) (dUse 2)) (dCons (ret (.int 0)) (dCons (dUse 0) (dNil))))))) (dB (dOp pInA (dOp pIx (dUse 1) (dUse 2)) (dCut (dUse 1) (dNoPart) (dPart (dUse 2)))))) (dRet (ret (.bl false))) (nxt))) (dRet (ret (.bl true))))
@[irreducible] noncomputable def den_are_points : List PV → Stt → Res := runD 3 2 body_are_points
/-- made_ground(thing); names: 0 thing -/
@[irreducible] noncomputable def body_made_ground : Cd Flw := dSeq (dIf (dOrT (dNotT (dTru (dFn fIsi (dCons (dUse 0) (dCons (ret (.raw (.ty "tuple"))) (dNil)))))) (dB (dOp pNe (dFn fLen (dCons (dUse 0) (dNil))) (ret (.int 3))))) (dRaise "BadGround" (dUn pNeg (ret (.int 1)))) (nxt)) (dSeq (dIf (dNotT (dTru (dCall 1 den_is_prime (dCons (dOp pIx (dUse 0) (ret (.int 0))) (dNil))))) (dRaise "BadGround" (ret (.int 0))) (nxt)) (dSeq (dIf (dNotT (dTru (dCall 3 den_is_whole (dCons (dOp pIx (dUse 0) (ret (.int 1))) (dCons (ret (.int 1)) (dCons (ret (.int 12)) (dNil))))))) (dRaise "BadGround" (ret (.int 1))) (nxt)) (dSeq (dIf (dNotT (dTru (dCall 2 den_are_points (dCons (dOp pIx (dUse 0) (ret (.int 0))) (dCons (dOp pIx (dUse 0) (ret (.int 2))) (dNil)))))) (dRaise "BadGround" (ret (.int 2))) (nxt)) (dRet (dUse 0)))))
@[irreducible] noncomputable def den_made_ground : List PV → Stt → Res := runD 1 1 body_made_ground
/-- shelves(ground); names: 0 ground -/
@[irreducible] noncomputable def body_shelves : Cd Flw := dRet (dFn fLen (dCons (dOp pIx (dCall 1 den_made_ground (dCons (dUse 0) (dNil))) (ret (.int 2))) (dNil)))
@[irreducible] noncomputable def den_shelves : List PV → Stt → Res := runD 1 1 body_shelves
/-- made_lengths(ground, thing); names: 0 ground, 1 thing, 2 many, 3 index -/
@[irreducible] noncomputable def body_made_lengths : Cd Flw := dSeq (dSet 2 (dCall 1 den_shelves (dCons (dUse 0) (dNil)))) (dSeq (dIf (dOrT (dNotT (dTru (dFn fIsi (dCons (dUse 1) (dCons (ret (.raw (.ty "tuple"))) (dNil)))))) (dB (dOp pNe (dFn fLen (dCons (dUse 1) (dNil))) (dUse 2)))) (dRaise "BadLengths" (dUn pNeg (ret (.int 1)))) (nxt)) (dSeq (dFor (dRng1 (dCons (dUse 2) (dNil))) (gSet 3) (dIf (dNotT (dTru (dCall 3 den_is_whole (dCons (dOp pIx (dUse 1) (dUse 3)) (dCons (ret (.int 0)) (dCons (ret (.int 1024)) (dNil))))))) (dRaise "BadLengths" (dUse 3)) (nxt))) (dRet (dUse 1))))
@[irreducible] noncomputable def den_made_lengths : List PV → Stt → Res := runD 4 2 body_made_lengths
/-- ways_left(ground, lengths); names: 0 ground, 1 lengths, 2 total -/
@[irreducible] noncomputable def body_ways_left : Cd Flw := dSeq (dSet 2 (dFn fSum (dCons (dCall 2 den_made_lengths (dCons (dUse 0) (dCons (dUse 1) (dNil)))) (dNil)))) (dRet (dFn fMax (dCons (ret (.int 0)) (dCons (dOp pSub (dOp pIx (dUse 0) (ret (.int 1))) (dUse 2)) (dNil)))))
@[irreducible] noncomputable def den_ways_left : List PV → Stt → Res := runD 3 2 body_ways_left
/-- times(p, f, g); names: 0 p, 1 f, 2 g, 3 found, 4 i, 5 j -/
@[irreducible] noncomputable def body_times : Cd Flw := dSeq (dOwn 3 (dMulL (dFrz (dDisp (dCons (ret (.int 0)) (dNil)))) (dOp pSub (dOp pAdd (dFn fLen (dCons (dUse 1) (dNil))) (dFn fLen (dCons (dUse 2) (dNil)))) (ret (.int 1))))) (dSeq (dFor (dRng1 (dCons (dFn fLen (dCons (dUse 1) (dNil))) (dNil))) (gSet 4) (dFor (dRng1 (dCons (dFn fLen (dCons (dUse 2) (dNil))) (dNil))) (gSet 5) (dSetO 3 (dOp pAdd (dUse 4) (dUse 5)) (dOp pMod (dOp pAdd (dIxO 3 (dOp pAdd (dUse 4) (dUse 5))) (dOp pMul (dOp pIx (dUse 1) (dUse 4)) (dOp pIx (dUse 2) (dUse 5)))) (dUse 0))))) (dRet (dFn fTuple (dCons (dUse 3) (dNil)))))
@[irreducible] noncomputable def den_times : List PV → Stt → Res := runD 6 3 body_times
/-- line(p, point); names: 0 p, 1 point -/
@[irreducible] noncomputable def body_line : Cd Flw := dRet (dIfE (dB (dOp pEq (dUse 1) (dUse 0))) (dTup (dCons (ret (.int 1)) (dCons (ret (.int 0)) (dNil)))) (dTup (dCons (dOp pMod (dUn pNeg (dUse 1)) (dUse 0)) (dCons (ret (.int 1)) (dNil)))))
@[irreducible] noncomputable def den_line : List PV → Stt → Res := runD 2 2 body_line
/-- product(ground, lengths); names: 0 ground, 1 lengths, 2 p, 3 k, 4 points, 5 many, 6 found, 7 point, 8 length, 9 turn -/
@[irreducible] noncomputable def body_product : Cd Flw := dSeq (dAsg (dCall 1 den_made_ground (dCons (dUse 0) (dNil))) (gTupD 3 (gsCons (gSet 2) (gsCons (gSet 3) (gsCons (gSet 4) (gsNil)))))) (dSeq (dSet 5 (dCall 2 den_made_lengths (dCons (dUse 0) (dCons (dUse 1) (dNil))))) (dSeq (dIf (dB (dOp pGt (dFn fSum (dCons (dUse 5) (dNil))) (ret (.int 98)))) (dRaise "TooMany" (dFn fSum (dCons (dUse 5) (dNil)))) (nxt)) (dSeq (dSet 6 (dTup (dCons (ret (.int 1)) (dNil)))) (dSeq (dFor (dZipM (dCons (dUse 4) (dCons (dUse 5) (dNil)))) (gTupD 2 (gsCons (gSet 7) (gsCons (gSet 8) (gsNil)))) (dFor (dRng1 (dCons (dUse 8) (dNil))) (gSet 9) (dSet 6 (dCall 3 den_times (dCons (dUse 2) (dCons (dUse 6) (dCons (dCall 2 den_line (dCons (dUse 2) (dCons (dUse 7) (dNil)))) (dNil)))))))) (dRet (dUse 6))))))
@[irreducible] noncomputable def den_product : List PV → Stt → Res := runD 10 2 body_product
/-- early(ground, lengths); names: 0 ground, 1 lengths, 2 k, 3 free, 4 lines, 5 found, 6 place, 7 at -/
@[irreducible] noncomputable def body_early : Cd Flw := dSeq (dPar 2 3 (dCons (dOp pIx (dCall 1 den_made_ground (dCons (dUse 0) (dNil))) (ret (.int 1))) (dCons (dCall 2 den_ways_left (dCons (dUse 0) (dCons (dUse 1) (dNil)))) (dNil)))) (dSeq (dIf (dB (dOp pEq (dUse 3) (ret (.int 0)))) (dRet (dTupR (dUse 2))) (nxt)) (dSeq (dSet 4 (dCall 2 den_product (dCons (dUse 0) (dCons (dUse 1) (dNil))))) (dSeq (dOwn 5 (dDisp (dNil))) (dSeq (dFor (dRng1 (dCons (dUse 2) (dNil))) (gSet 6) (dIf (dB (dOp pEq (dFrz (dComp (dRng2 (dCons (dFn fMax (dCons (ret (.int 0)) (dCons (dOp pAdd (dOp pSub (dUse 6) (dUse 3)) (ret (.int 1))) (dNil)))) (dCons (dFn fMin (dCons (dOp pAdd (dUse 6) (ret (.int 1))) (dCons (dFn fLen (dCons (dUse 4) (dNil))) (dNil)))) (dNil)))) [7] (gSet 7) (dB (dOp pNe (dOp pIx (dUse 4) (dUse 7)) (ret (.int 0)))) (ret (.int 1)))) (dFrz (dDisp (dNil))))) (dDrop (dMthO 5 mAppend (dCons (dUse 6) (dNil)))) (nxt))) (dRet (dFn fTuple (dCons (dUse 5) (dNil))))))))
@[irreducible] noncomputable def den_early : List PV → Stt → Res := runD 8 2 body_early
/-- law(_law_script); names: 0 _law_script, 1 _law_pool_here, 2 _law_p, 3 _law_points, 4 _law_ground, 5 _law_lengths_here, 6 _law_batch_here, 7 _law_own, 8 _law_alike, 9 _law_other, 10 _law_many, 11 _law_turn, 12 _law_told, 13 _law_place, 14 _law_numbers, 15 _law_counts, 16 _law_number -/
@[irreducible] noncomputable def body_law : Cd Flw := dSeq (dSet 1 (dCall 1 den__law_pool (dCons (dUse 0) (dNil)))) (dSeq (dSet 2 (dOp pAdd (ret (.int 2)) (dCall 2 den__law_draw (dCons (dUse 1) (dCons (ret (.int 2)) (dNil)))))) (dSeq (dSet 3 (dCut (dCall 2 den__law_turned (dCons (dUse 1) (dCons (dOp pAdd (dUse 2) (ret (.int 1))) (dNil)))) (dNoPart) (dPart (dOp pAdd (ret (.int 1)) (dCall 2 den__law_draw (dCons (dUse 1) (dCons (dFn fMin (dCons (ret (.int 4)) (dCons (dOp pAdd (dUse 2) (ret (.int 1))) (dNil)))) (dNil)))))))) (dSeq (dSet 4 (dTup (dCons (dUse 2) (dCons (dOp pAdd (ret (.int 1)) (dCall 2 den__law_draw (dCons (dUse 1) (dCons (dIfE (dB (dOp pEq (dUse 2) (ret (.int 2)))) (ret (.int 6)) (ret (.int 4))) (dNil))))) (dCons (dFn fTuple (dCons (dUse 3) (dNil))) (dNil)))))) (dSeq (dSet 5 (dCall 3 den__law_lengths (dCons (dUse 1) (dCons (dUse 4) (dCons (dOp pAdd (ret (.int 1)) (dCall 2 den__law_draw (dCons (dUse 1) (dCons (ret (.int 3)) (dNil))))) (dNil)))))) (dSeq (dIf (dB (dOp pGt (dFn fSum (dCons (dUse 5) (dNil))) (dOp pIx (dUse 4) (ret (.int 1))))) (dSet 5 (dOp pAdd (dTup (dCons (dCall 2 den__law_draw (dCons (dUse 1) (dCons (dOp pAdd (dOp pIx (dUse 4) (ret (.int 1))) (ret (.int 1))) (dNil)))) (dNil))) (dOp pMulA (dTup (dCons (ret (.int 0)) (dNil))) (dOp pSub (dFn fLen (dCons (dUse 5) (dNil))) (ret (.int 1)))))) (nxt)) (dSeq (dSet 6 (dCall 2 den__law_batch (dCons (dUse 1) (dCons (dUse 4) (dNil))))) (dSeq (dSet 7 (dCall 3 den__law_begun (dCons (dUse 4) (dCons (dUse 6) (dCons (dUse 5) (dNil)))))) (dSeq (dSet 8 (dFrz (dComp (dItems (dCall 2 den__law_listed (dCons (dUse 2) (dCons (dOp pIx (dUse 4) (ret (.int 1))) (dNil))))) [9] (gSet 9) (dB (dOp pEq (dCall 3 den__law_begun (dCons (dUse 4) (dCons (dUse 9) (dCons (dUse 5) (dNil))))) (dUse 7))) (dUse 9)))) (dSeq (dSet 10 (ret (.int 1))) (dSeq (dFor (dRng1 (dCons (dCall 2 den_ways_left (dCons (dUse 4) (dCons (dUse 5) (dNil)))) (dNil))) (gSet 11) (dSet 10 (dOp pMul (dUse 10) (dUse 2)))) (dSeq (dIf (dB (dOp pNe (dFn fLen (dCons (dUse 8) (dNil))) (dUse 10))) (dRet (ret (.bl false))) (nxt)) (dSeq (dSet 12 (dCall 2 den_early (dCons (dUse 4) (dCons (dUse 5) (dNil))))) (dSeq (dFor (dRng1 (dCons (dOp pIx (dUse 4) (ret (.int 1))) (dNil))) (gSet 13) (dSeq (dSet 14 (dFrz (dComp (dItems (dUse 8)) [9] (gSet 9) (ret true) (dOp pIx (dUse 9) (dUse 13))))) (dSeq (dSet 15 (dFrz (dComp (dRng1 (dCons (dUse 2) (dNil))) [16] (gSet 16) (ret true) (dCountL (dUse 14) (dCons (dUse 16) (dNil)))))) (dSeq (dIf (dAndT (dB (dOp pInA (dUse 13) (dUse 12))) (dB (dOp pNe (dOp pIx (dUse 15) (dOp pIx (dUse 6) (dUse 13))) (dUse 10)))) (dRet (ret (.bl false))) (nxt)) (dIf (dAndT (dB (dOp pNotInA (dUse 13) (dUse 12))) (dB (dOp pNe (dUse 15) (dOp pMul (dFrz (dDisp (dCons (dOp pDiv (dUse 10) (dUse 2)) (dNil)))) (dUse 2))))) (dRet (ret (.bl false))) (nxt)))))) (dRet (dOp pEq (dFrz (dListF (dUse 12))) (dFrz (dSrtSet (dFrz (dListF (dUse 12))))))))))))))))))))
@[irreducible] noncomputable def den_law : List PV → Stt → Res := runD 17 1 body_law
end FS
set_option Elab.async false
set_option linter.all false
set_option pp.maxSteps 700
set_option maxRecDepth 100000
set_option maxHeartbeats 8000000
namespace FS
open PySem L2
namespace I
section
local macro_rules | `(tactic| walk_at "okm") => `(tactic| first | (exact okMul_l (by omega)) | (exact okMul_r (by omega)) | decide)
local macro_rules | `(tactic| walk_at "fsW") => `(tactic| first
  | (with_reducible refine wp_useL ?_)
  | (with_reducible refine wp_lenL ?_)
  | (with_reducible refine wp_ixL ?_)
  | (with_reducible refine wp_mthL ?_)
  | ((with_reducible refine wp_gtupC ?_ ?_); exact rfl)
  | ((with_reducible refine wp_gtupZ ?_ ?_); exact rfl))
local macro_rules | `(tactic| walk_at "fsE") => `(tactic| first
  | ((with_reducible show ∃ ys, _ = some (Slot.own ys) ∧ _); refine x_own1 rfl ?_)
  | ((with_reducible refine x_mul ?_ ?_); (walk_at "okm"))
  | ((with_reducible refine x_div ?_ ?_ ?_); omega; omega)
  | ((with_reducible refine x_mod ?_ ?_); omega)
  | ((with_reducible refine x_pow ?_ ?_); decide)
  | ((with_reducible show ∃ k, _ = some (PV.bl k) ∧ _); refine x_chain rfl ?_)
  | ((with_reducible show ∃ n ys, _ = PV.ref n ∧ _ = some (SO.lst ys) ∧ _); refine x_mR rfl rfl ?_)
  | ((with_reducible show ∃ w, pIx _ _ _ = some w ∧ _); refine x_ix rfl ?_)
  | ((with_reducible show ∃ w, fLen _ _ = some w ∧ _); refine x_len rfl ?_)
  | ((with_reducible show ∃ w, fInt _ _ = some w ∧ _); refine x_int rfl ?_)
  | ((with_reducible refine x_isi (w := .bl true) ?_ ?_); exact rfl)
  | ((with_reducible refine x_isi (w := .bl false) ?_ ?_); exact rfl)
  | ((with_reducible show ∃ w, fTuple _ _ = some w ∧ _); refine x_tupf rfl ?_)
  | ((with_reducible show ∃ w, fMin _ _ = some w ∧ _); refine x_minf rfl ?_)
  | ((with_reducible show ∃ w, fMax _ _ = some w ∧ _); refine x_maxf rfl ?_)
  | ((with_reducible show ∃ w, pCut _ _ _ _ = some w ∧ _); refine x_pcut rfl ?_)
  | ((with_reducible show ∃ w, itemsOf _ _ = some w ∧ _); refine x_itm rfl ?_)
  | ((with_reducible show ∃ w, itemsF _ = some w ∧ _); refine x_itF rfl ?_)
  | ((with_reducible show ∃ i, _ = PV.int i ∧ _); refine x_part rfl ?_)
  | ((with_reducible show ∃ p q, _ = [p, q] ∧ _); refine x_par rfl ?_)
  | ((with_reducible show ∃ n xs j m, _ = PV.ref n ∧ _ = PV.int j ∧ _ ∧ _ ∧ _); refine x_setR rfl rfl rfl rfl ?_))
local macro_rules | `(tactic| walk_at "fsR") => `(tactic| first
  | ((with_reducible show Wp _ _ _); (walk_at "fsW"))
  | ((with_reducible show Exists _); (walk_at "fsE"))
  | ((with_reducible show LkS _ _ _); first | refine lks_v rfl ?_ | refine lks_o rfl ?_)
  | ((with_reducible show _ ≤ sizeLine ∧ _); refine x_low rfl ?_)
  | ((with_reducible show List.length _ = _ ∧ _); refine x_num rfl ?_))
local macro_rules | `(tactic| walk_at "fs1") => `(tactic| first | (with_reducible refine run1 ?_) | (walk_at "fsR"))
local macro_rules | `(tactic| walk_at "fs0") => `(tactic| first | (with_reducible refine stp1 ?_) | (walk_at "fsR"))
local macro_rules | `(tactic| walk_at "fs") => `(tactic| repeat (walk_at "fs1"))
local macro_rules | `(tactic| walk_at "fsp") => `(tactic| (with_reducible refine x_spl ?_ ?_) <;> (intro h; first | (simp only [Bool.not_true, Bool.not_false, reduceCtorEq, decide_eq_true_eq, decide_eq_false_iff_not, Bool.not_eq_true', Bool.not_eq_false', Bool.and_eq_true, Int.not_lt, Int.not_le, Bool.or_eq_true, Bool.and_eq_false_iff, Bool.or_eq_false_iff, Bool.false_and, Bool.true_and, Bool.or_false, Bool.false_or, beq_self_eq_true, Bool.true_or, List.isEmpty_nil, List.isEmpty_cons] at h) | skip))
local macro_rules | `(tactic| walk_at "fss") => `(tactic| repeat' (first | (walk_at "fs1") | (walk_at "fsp")))
/-- the pool: its ints, its own list, and what lies behind -/
def Pool (S : Stt) : Prop := ∃ (a b : Int) (ns : List Int) (r : Stt), S = .lst (ns.map PV.int) :: .lst [.int a, .int b, .ref 0] :: r ∧ 0 ≤ a
theorem fn_pool (ns : List Int) : Fn (den__law_pool [.scr ns] []) (fun p S => p = .ref 1 ∧ Pool S) noR := by
  unfold den__law_pool
  with_reducible refine fn_run ?_ ?_
  exact rfl
  unfold body__law_pool
  walk_at "fss"
  · cases ns with
    | nil => simp at *
    | cons n ns =>
      refine x_ix (w := .int n) (by show (atI (n :: ns) 0).map PV.int = _; rw [atI_zero]; rfl) ?_
      walk_at "fss"
      all_goals exact ⟨rfl, _, _, _, [], rfl, by omega⟩
  all_goals exact ⟨rfl, _, _, _, [], rfl, by omega⟩
theorem fn_draw (S : Stt) (h : Pool S) (many : Int) (h0 : 0 < many) (h1 : many < 1000000000000000000000) : Fn (den__law_draw [.ref 1, .int many] S) (fun p S => Pool S ∧ ∃ v, p = .int v ∧ 0 ≤ v ∧ v < many) noR := by
  obtain ⟨a, b, ns, r, rfl, ha⟩ := h
  have hm := fun a => Int.emod_nonneg a (Int.ne_of_gt h0)
  have hm2 := fun a => Int.emod_lt_of_pos a h0
  have hd := fun a h => Int.ediv_nonneg (a := a) (b := many) h (Int.le_of_lt h0)
  have hn : ∀ b r, pNe (.lst (ns.map PV.int) :: .lst [.int a, .int b, .ref 0] :: r) (.ref 0) (.lst []) = some (.bl (!ns.isEmpty)) := fun b r => by
    show (if (okd 60 (.lst (ns.map PV.int)) && _ && _ && _) = true then some (PV.bl (!eqv (.lst (ns.map PV.int)) (.lst []))) else none) = _
    rw [okd_ints, eqv_nil]
    rfl
  unfold den__law_draw
  with_reducible refine fn_run ?_ ?_
  exact rfl
  unfold body__law_draw
  walk_at "fss"
  · refine ⟨_, hn _ _, ?_⟩
    cases ns with
    | nil =>
      walk_at "fss"
      all_goals first | omega | exact ⟨⟨_, _, [], r, rfl, by first | omega | exact hd _ (by omega)⟩, _, rfl, hm _, hm2 _⟩
    | cons n ns =>
      walk_at "fss"
      · refine x_mf rfl pop0 ?_
        walk_at "fss"
        all_goals exact ⟨⟨_, _, ns, r, rfl, by first | omega | exact hd _ (by omega)⟩, _, rfl, hm _, hm2 _⟩
      all_goals exact absurd ‹(n :: ns).isEmpty = true› Bool.false_ne_true
  all_goals exact ⟨⟨_, _, ns, r, rfl, by first | omega | exact hd _ (by omega)⟩, _, rfl, hm _, hm2 _⟩
theorem go_draw {S : Stt} {many : Int} {Q : PV → Stt → Prop} {R : Str → PV → Stt → Prop} (h : Pool S) (h0 : 0 < many) (h1 : many < 1000000000000000000000) (k : ∀ S' v, Pool S' → 0 ≤ v → v < many → Q (.int v) S') : Fn (den__law_draw [.ref 1, .int many] S) Q R :=
  Fn.mono (fn_draw S h many h0 h1) (fun p s ⟨a, v, e, b, c⟩ => e ▸ k s v a b c) fun _ _ _ h => h.elim
theorem fn_is_whole (S : Stt) (p : PV) (lo hi : Int) (h : Th p) : Fn (den_is_whole [p, .int lo, .int hi] S) (fun q s => s = S ∧ q = .bl (isW lo hi p)) noR := by
  unfold den_is_whole
  with_reducible refine fn_run ?_ ?_
  exact rfl
  unfold body_is_whole
  rcases h with ⟨n, rfl⟩ | ⟨b, rfl⟩ | rfl | ⟨x, rfl⟩ | ⟨xs, rfl⟩
  · walk_at "fss"
    all_goals refine ⟨rfl, ?_⟩
    all_goals refine congrArg PV.bl ?_
    all_goals simp only [isW]
    all_goals first | (rw [decide_eq_true (by omega : lo ≤ n)]; rfl) | (rw [decide_eq_false (by omega : ¬ lo ≤ n)]; rfl)
  all_goals walk_at "fss"
  all_goals exact ⟨rfl, rfl⟩
theorem fn_is_prime (S : Stt) (p : PV) (h : Th p) : Fn (den_is_prime [p] S) (fun q s => s = S ∧ q = .bl (isP p)) noR := by
  unfold den_is_prime
  with_reducible refine fn_run ?_ ?_
  exact rfl
  unfold body_is_prime
  walk_at "fss"
  refine no_implicit_lambda% (Fn.mono (fn_is_whole S p 2 65521 h) (fun q s h1 => ?_) fun _ _ _ h => h)
  obtain ⟨rfl, rfl⟩ := h1
  walk_at "fss"
  · rename_i hw
    refine ⟨rfl, ?_⟩
    cases p with
    | int n =>
      have : ¬ prm n := fun z => by simp [isW, z.1, z.2.1] at hw
      simp [isP, this]
    | _ => rfl
  · rename_i hw
    cases p with
    | int n =>
      simp only [isW, Bool.and_eq_true, decide_eq_true_eq] at hw
      refine wp_while (fun e s' => s' = s ∧ ∃ d, e = [.val (.int n), .val (.int d)] ∧ 2 ≤ d ∧ d ≤ n ∧ ∀ k, 2 ≤ k → k < d → n % k ≠ 0) (fun e s => match e with | [_, .val (.int d)] => (n - d).toNat | _ => 0) ⟨rfl, 2, rfl, by omega, by omega, fun k h1 h2 => by omega⟩ ?_
      intro e s' ⟨e1, d, e2, h1, h2, h3⟩
      subst e1 e2
      walk_at "fss"
      · rename_i hk
        refine ⟨rfl, ?_⟩
        have : ¬ prm n := fun z => z.2.2 d h1 ‹d * d ≤ n› hk
        simp [isP, this]
      · rename_i hd _
        have hq := sq_ge h1
        refine ⟨⟨rfl, d + 1, rfl, by omega, by omega, fun k q1 q2 => ?_⟩, ?_⟩
        · by_cases q : k = d
          · subst q
            assumption
          · exact h3 k q1 (by omega)
        · show (n - (d + 1)).toNat < (n - d).toNat
          omega
      · rename_i hd
        refine ⟨rfl, ?_⟩
        have : prm n := ⟨hw.1, hw.2, fun k q1 q2 => h3 k q1 (by
          rcases Int.lt_or_le k d with q | q
          · exact q
          · have := sq_le (by omega) q
            omega)⟩
        simp [isP, this]
    | _ => cases hw
/-! grounds -/
structure Gnd (p k : Int) (xs : List Int) : Prop where
  pr : prm p
  k1 : 1 ≤ k
  k2 : k ≤ 12
  n1 : 1 ≤ xs.length
  n2 : xs.length ≤ 8
  rg : ∀ x ∈ xs, 0 ≤ x ∧ x ≤ p
  nd : xs.Nodup
def iL (xs : List Int) : List PV := xs.map PV.int
abbrev tupI (xs : List Int) : PV := .tup (iL xs)
abbrev gv (p k : Int) (xs : List Int) : PV := .tup [.int p, .int k, tupI xs]
theorem ints_len (xs : List Int) : (iL xs).length = xs.length := List.length_map ..
theorem ints_get {xs : List Int} {i : Nat} {x : Int} (h : xs[i]? = some x) : (iL xs)[i]? = some (.int x) := by
  unfold iL
  rw [List.getElem?_map, h]
  rfl
theorem ints_at {xs : List Int} {i : Nat} {x : Int} (h : xs[i]? = some x) : atI (iL xs) (i : Int) = some (.int x) := atI_nat (ints_get h)
theorem ints_take (xs : List Int) (n : Nat) : (iL xs).take n = iL (xs.take n) := by
  unfold iL
  rw [List.map_take]
theorem okd_intsT (k : Nat) (xs : List Int) : okd (k + 1) (tupI xs) = true := by
  show (xs.map PV.int).all (okd k) = true
  rw [List.all_map]
  exact List.all_eq_true.mpr fun _ _ => by cases k <;> rfl
theorem any_ints (y : Int) : ∀ xs : List Int, (iL xs).any (fun z => eqv z (.int y)) = decide (y ∈ xs)
  | [] => rfl
  | x :: xs => by
    show (eqv (.int x) (.int y) || (iL xs).any _) = _
    rw [any_ints y xs, eqv_int]
    by_cases h : y = x
    · subst h
      simp
    · have h2 : ¬ x = y := fun e => h e.symm
      simp [h, h2]
theorem in_ints (S : Stt) (y : Int) (xs : List Int) : pInA S (.int y) (tupI xs) = some (.bl (decide (y ∈ xs))) := by
  show (pIn S (.int y) (tupI xs)).or (if (okd 60 (.int y) && okd 60 (tupI xs)) = true then some (.bl ((iL xs).any fun z => eqv z (.int y))) else none) = _
  rw [okd_intsT, any_ints]
  rfl
theorem fn_are_points (S : Stt) (p : Int) (xs : List Int) (hp : 0 ≤ p) (h1 : 1 ≤ xs.length) (h2 : xs.length ≤ 8) (hr : ∀ x ∈ xs, 0 ≤ x ∧ x ≤ p) (hn : xs.Nodup) : Fn (den_are_points [.int p, tupI xs] S) (fun q s => s = S ∧ q = .bl true) noR := by
  have hl := ints_len xs
  unfold den_are_points
  with_reducible refine fn_run ?_ ?_
  exact rfl
  unfold body_are_points
  walk_at "fss"
  · omega
  rotate_left
  · omega
  · with_reducible refine wp_for ?_
    walk_at "fss"
    refine x_rng1 (by omega) (by omega) ?_
    rw [hl, Int.toNat_natCast]
    refine ⟨fun i e s => s = S ∧ ∃ x, e = [.val (.int p), .val (tupI xs), x], ⟨rfl, _, rfl⟩, fun i t e s hi ⟨e1, x, e2⟩ => ?_, fun e s ⟨e1, x, e2⟩ => ?_⟩
    · obtain ⟨hj, rfl⟩ := rng_get _ _ _ _ hi
      subst e1 e2
      have hx : xs[i]? = some xs[i] := List.getElem?_eq_getElem hj
      walk_at "fss"
      refine x_ix (ints_at hx) ?_
      walk_at "fss"
      refine no_implicit_lambda% (Fn.mono (fn_is_whole s (.int xs[i]) 0 p (.inl ⟨_, rfl⟩)) (fun q s' ⟨e1, e2⟩ => ?_) fun _ _ _ h => h.elim)
      subst e1 e2
      have hw : isW 0 p (.int xs[i]) = true := by
        obtain ⟨q1, q2⟩ := hr xs[i] (List.getElem_mem hj)
        simp [isW, q1, q2]
      rw [hw]
      walk_at "fss"
      refine x_ix (ints_at hx) ?_
      walk_at "fss"
      rw [cut_to, ints_take]
      have hni : ¬ xs[i] ∈ xs.take i := fun hm => by
        obtain ⟨k, hk, he⟩ := List.getElem_of_mem hm
        rw [List.getElem_take] at he
        have hk2 : k < i := by
          rw [List.length_take] at hk
          omega
        exact (List.pairwise_iff_getElem.mp hn) k i (by omega) hj hk2 he
      refine ⟨_, in_ints _ _ _, ?_⟩
      rw [decide_eq_false hni]
      walk_at "fss"
      exact ⟨rfl, _, rfl⟩
    · subst e1 e2
      walk_at "fss"
      exact ⟨rfl, rfl⟩
theorem fn_made_ground (S : Stt) (p k : Int) (xs : List Int) (h : Gnd p k xs) : Fn (den_made_ground [gv p k xs] S) (fun q s => s = S ∧ q = gv p k xs) noR := by
  have hp : isP (.int p) = true := by simp [isP, h.pr]
  have hp1 := h.pr.1
  unfold den_made_ground
  with_reducible refine fn_run ?_ ?_
  exact rfl
  unfold body_made_ground
  walk_at "fss"
  · exact absurd rfl ‹¬ (([PV.int p, PV.int k, tupI xs].length : Nat) : Int) = 3›
  refine no_implicit_lambda% (Fn.mono (fn_is_prime S (.int p) (.inl ⟨_, rfl⟩)) (fun q s' ⟨e1, e2⟩ => ?_) fun _ _ _ h => h.elim)
  subst e1 e2
  rw [hp]
  walk_at "fss"
  refine no_implicit_lambda% (Fn.mono (fn_is_whole s' (.int k) 1 12 (.inl ⟨_, rfl⟩)) (fun q s' ⟨e1, e2⟩ => ?_) fun _ _ _ h => h.elim)
  subst e1 e2
  rw [show isW 1 12 (.int k) = true by simp [isW, h.k1, h.k2]]
  walk_at "fss"
  refine no_implicit_lambda% (Fn.mono (fn_are_points s' p xs (by omega) h.n1 h.n2 h.rg h.nd) (fun q s' ⟨e1, e2⟩ => ?_) fun _ _ _ h => h.elim)
  subst e1 e2
  walk_at "fss"
  exact ⟨rfl, rfl⟩
end
end I
end FS
set_option Elab.async false
set_option linter.all false
set_option pp.maxSteps 700
set_option maxRecDepth 100000
set_option maxHeartbeats 8000000
namespace FS
open PySem L2
namespace I
section
local macro_rules | `(tactic| walk_at "okm") => `(tactic| first | (exact okMul_l (by omega)) | (exact okMul_r (by omega)) | decide)
local macro_rules | `(tactic| walk_at "fsW") => `(tactic| first
  | (with_reducible refine wp_useL ?_)
  | (with_reducible refine wp_lenL ?_)
  | (with_reducible refine wp_ixL ?_)
  | (with_reducible refine wp_mthL ?_)
  | ((with_reducible refine wp_gtupC ?_ ?_); exact rfl)
  | ((with_reducible refine wp_gtupZ ?_ ?_); exact rfl))
local macro_rules | `(tactic| walk_at "fsE") => `(tactic| first
  | ((with_reducible show ∃ ys, _ = some (Slot.own ys) ∧ _); refine x_own1 rfl ?_)
  | ((with_reducible refine x_mul ?_ ?_); (walk_at "okm"))
  | ((with_reducible refine x_div ?_ ?_ ?_); omega; omega)
  | ((with_reducible refine x_mod ?_ ?_); omega)
  | ((with_reducible refine x_pow ?_ ?_); decide)
  | ((with_reducible show ∃ k, _ = some (PV.bl k) ∧ _); refine x_chain rfl ?_)
  | ((with_reducible show ∃ n ys, _ = PV.ref n ∧ _ = some (SO.lst ys) ∧ _); refine x_mR rfl rfl ?_)
  | ((with_reducible show ∃ w, pIx _ _ _ = some w ∧ _); refine x_ix rfl ?_)
  | ((with_reducible show ∃ w, fLen _ _ = some w ∧ _); refine x_len rfl ?_)
  | ((with_reducible show ∃ w, fInt _ _ = some w ∧ _); refine x_int rfl ?_)
  | ((with_reducible refine x_isi (w := .bl true) ?_ ?_); exact rfl)
  | ((with_reducible refine x_isi (w := .bl false) ?_ ?_); exact rfl)
  | ((with_reducible show ∃ w, fTuple _ _ = some w ∧ _); refine x_tupf rfl ?_)
  | ((with_reducible show ∃ w, fMin _ _ = some w ∧ _); refine x_minf rfl ?_)
  | ((with_reducible show ∃ w, fMax _ _ = some w ∧ _); refine x_maxf rfl ?_)
  | ((with_reducible show ∃ w, pCut _ _ _ _ = some w ∧ _); refine x_pcut rfl ?_)
  | ((with_reducible show ∃ w, itemsOf _ _ = some w ∧ _); refine x_itm rfl ?_)
  | ((with_reducible show ∃ w, itemsF _ = some w ∧ _); refine x_itF rfl ?_)
  | ((with_reducible show ∃ i, _ = PV.int i ∧ _); refine x_part rfl ?_)
  | ((with_reducible show ∃ p q, _ = [p, q] ∧ _); refine x_par rfl ?_)
  | ((with_reducible show ∃ n xs j m, _ = PV.ref n ∧ _ = PV.int j ∧ _ ∧ _ ∧ _); refine x_setR rfl rfl rfl rfl ?_))
local macro_rules | `(tactic| walk_at "fsR") => `(tactic| first
  | ((with_reducible show Wp _ _ _); (walk_at "fsW"))
  | ((with_reducible show Exists _); (walk_at "fsE"))
  | ((with_reducible show LkS _ _ _); first | refine lks_v rfl ?_ | refine lks_o rfl ?_)
  | ((with_reducible show _ ≤ sizeLine ∧ _); refine x_low rfl ?_)
  | ((with_reducible show List.length _ = _ ∧ _); refine x_num rfl ?_))
local macro_rules | `(tactic| walk_at "fs1") => `(tactic| first | (with_reducible refine run1 ?_) | (walk_at "fsR"))
local macro_rules | `(tactic| walk_at "fs0") => `(tactic| first | (with_reducible refine stp1 ?_) | (walk_at "fsR"))
local macro_rules | `(tactic| walk_at "fs") => `(tactic| repeat (walk_at "fs1"))
local macro_rules | `(tactic| walk_at "fsp") => `(tactic| (with_reducible refine x_spl ?_ ?_) <;> (intro h; first | (simp only [Bool.not_true, Bool.not_false, reduceCtorEq, decide_eq_true_eq, decide_eq_false_iff_not, Bool.not_eq_true', Bool.not_eq_false', Bool.and_eq_true, Int.not_lt, Int.not_le, Bool.or_eq_true, Bool.and_eq_false_iff, Bool.or_eq_false_iff, Bool.false_and, Bool.true_and, Bool.or_false, Bool.false_or, beq_self_eq_true, Bool.true_or, List.isEmpty_nil, List.isEmpty_cons] at h) | skip))
local macro_rules | `(tactic| walk_at "fss") => `(tactic| repeat' (first | (walk_at "fs1") | (walk_at "fsp")))
local macro_rules | `(tactic| walk_at "fd1") => `(tactic| first
  | ((with_reducible refine go_draw ?_ ?_ ?_ ?_); assumption; (first | omega | decide); (first | omega | decide); intro s' v hp hv0 hv1)
  | (walk_at "fs1") | (walk_at "fsp"))
local macro_rules | `(tactic| walk_at "fdi1") => `(tactic| first
  | ((with_reducible refine go_draw ?_ ?_ ?_ ?_); assumption; (first | omega | decide); (first | omega | decide); intro s' v hp hv0 hv1)
  | (walk_at "fs0") | (walk_at "fsp"))
local macro_rules | `(tactic| walk_at "fd") => `(tactic| repeat' (walk_at "fd1"))
local macro_rules | `(tactic| walk_at "fdi") => `(tactic| repeat' ((fail_if_success (with_reducible show Wp (dSeq (dIf _ _ _) _ _ _) _ _)); (walk_at "fdi1")))
/-! rows of cells -/
theorem x_mulLst {s : Stt} {xs : List PV} {k : Int} {Q : PV → Prop} (h : k < 1048576 ∧ -1048576 < k ∧ xs.length * k.toNat ≤ sizeLine) (hq : Q (.lst (List.replicate k.toNat xs).flatten)) : ∃ w, pMul s (.lst xs) (.int k) = some w ∧ Q w := ⟨_, by
  show (if k < 1048576 ∧ -1048576 < k ∧ xs.length * k.toNat ≤ sizeLine then some (PV.lst (List.replicate k.toNat xs).flatten) else none) = _
  rw [if_pos h], hq⟩
theorem app_ok {xs : List PV} {p : PV} (h : xs.length < sizeLine) : mAppend xs [p] = some (.non, xs ++ [p]) := by
  show (if xs.length < sizeLine then some (PV.non, xs ++ [p]) else none) = _
  rw [if_pos h]
theorem small_line {n : Nat} (h : n < 100000) : n < sizeLine := Nat.lt_trans h (by decide)
theorem rep_ok (x : PV) {n : Nat} (h : n < 10000) : (n : Int) < 1048576 ∧ -1048576 < (n : Int) ∧ [x].length * (n : Int).toNat ≤ sizeLine :=
  ⟨by omega, by omega, by rw [Int.toNat_natCast, List.length_singleton, Nat.one_mul]; exact Nat.le_of_lt (small_line (by omega))⟩
theorem iL_app (xs ys : List Int) : iL xs ++ iL ys = iL (xs ++ ys) := by
  unfold iL
  rw [List.map_append]
theorem iL_get {xs : List Int} {i : Nat} {p : PV} (h : (iL xs)[i]? = some p) : ∃ x, xs[i]? = some x ∧ p = .int x := by
  unfold iL at h
  rw [List.getElem?_map] at h
  cases q : xs[i]? with
  | none => rw [q] at h; cases h
  | some x =>
    rw [q] at h
    exact ⟨x, rfl, (Option.some.inj h).symm⟩
theorem iL_rep (n : Nat) (x : Int) : (List.replicate n [PV.int x]).flatten = iL (List.replicate n x) := by
  rw [List.flatten_replicate_singleton]
  unfold iL
  rw [List.map_replicate]
theorem take_next {α : Type} {xs : List α} {m : Nat} {a : α} (h : xs[m]? = some a) : xs.take (m + 1) = xs.take m ++ [a] := by
  rw [List.take_succ, h]
  rfl
/-- a batch -/
def Bt (p k : Int) (f : List Int) : Prop := (f.length : Int) = k ∧ ∀ x ∈ f, 0 ≤ x ∧ x < p
theorem pop_at {xs : List PV} {i : Nat} {p : PV} (h : xs[i]? = some p) (hi : i < 1000000) : mPopAt xs [.int i] = some (p, xs.eraseIdx i) := by
  have hl : i < xs.length := (List.getElem?_eq_some_iff.mp h).1
  unfold mPopAt
  simp only []
  rw [if_pos (by omega), ixN_nat hl]
  simp only [h, Option.map_some]
theorem iL_erase : ∀ (xs : List Int) (i : Nat), (iL xs).eraseIdx i = iL (xs.eraseIdx i)
  | [], i => by cases i <;> rfl
  | x :: xs, 0 => rfl
  | x :: xs, i + 1 => by
    show PV.int x :: (iL xs).eraseIdx i = PV.int x :: iL (xs.eraseIdx i)
    rw [iL_erase xs i]
def rgI (n : Nat) : List Int := (List.range n).map fun (i : Nat) => (i : Int)
theorem rgI_iL (n : Nat) : ((List.range n).map fun (i : Nat) => PV.int i) = iL (rgI n) := by
  unfold iL rgI
  rw [List.map_map]
  rfl
theorem rgI_nd (n : Nat) : (rgI n).Nodup := by
  unfold rgI
  refine List.pairwise_map.mpr (List.Pairwise.imp (fun {a b} h e => h ?_) List.nodup_range)
  exact Int.ofNat.inj e
theorem rgI_mem {n : Nat} {x : Int} (h : x ∈ rgI n) : 0 ≤ x ∧ x < n := by
  unfold rgI at h
  obtain ⟨i, hi, rfl⟩ := List.mem_map.mp h
  have := List.mem_range.mp hi
  omega
theorem erase_perm : ∀ (l : List Int) (i : Nat) (h : i < l.length), (l[i] :: l.eraseIdx i).Perm l
  | x :: l, 0, _ => List.Perm.refl _
  | x :: l, i + 1, h => (List.Perm.swap ..).trans ((erase_perm l i (by simpa using h)).cons x)
theorem fn_turnedP (S : Stt) (h : Pool S) (n : Nat) (hn : n < 1000) : Fn (den__law_turned [.ref 1, .int n] S) (fun q s => Pool s ∧ ∃ l : List Int, q = .lst (iL l) ∧ l.Perm (rgI n)) noR := by
  unfold den__law_turned
  with_reducible refine fn_run ?_ ?_
  exact rfl
  unfold body__law_turned
  walk_at "fd"
  refine ⟨n, rfl, ⟨by unfold okR; simp; omega, by omega⟩, ?_⟩
  walk_at "fd"
  with_reducible refine wp_for ?_
  walk_at "fd"
  refine x_rng1 (by omega) (by omega) ?_
  rw [Int.toNat_natCast]
  refine ⟨fun t e s => Pool s ∧ ∃ (lf fd : List Int) (x : Slot), e = [.val (.ref 1), .val (.int n), .own (iL lf), .own (iL fd), x] ∧ (lf ++ fd).Perm (rgI n) ∧ fd.length = t, ⟨h, rgI n, [], _, by rw [← rgI_iL]; rfl, by rw [List.append_nil], rfl⟩, fun t q e s hi ⟨hP, lf, fd, x, e2, hp, hl⟩ => ?_, fun e s ⟨hP, lf, fd, x, e2, hp, hl⟩ => ?_⟩
  · obtain ⟨hj, rfl⟩ := rng_get _ _ _ _ hi
    have hlen := hp.length_eq
    have hrl : (rgI n).length = n := by simp [rgI]
    rw [List.length_append, hrl] at hlen
    have hl2 := ints_len lf
    subst e2
    walk_at "fd"
    rename_i s' v hP' hv0 hv1
    obtain ⟨i, rfl⟩ : ∃ i : Nat, v = i := ⟨v.toNat, by omega⟩
    have hi2 : i < lf.length := by omega
    refine x_mfO rfl (pop_at (ints_get (List.getElem?_eq_getElem hi2)) (by omega)) ?_
    walk_at "fd"
    refine x_mfO rfl (app_ok (small_line (by rw [ints_len]; omega))) ?_
    walk_at "fd"
    refine ⟨hP', lf.eraseIdx i, fd ++ [lf[i]], _, (by rw [iL_erase, ← iL_app]; rfl), ?_, by simp [hl]⟩
    have hpe : (lf[i] :: lf.eraseIdx i).Perm lf := erase_perm lf i hi2
    refine List.Perm.trans ?_ hp
    refine List.Perm.trans ?_ (hpe.append_right fd)
    rw [← List.append_assoc]
    exact List.perm_append_comm.trans (List.Perm.refl _)
  · subst e2
    rw [List.length_map, List.length_range] at hl
    walk_at "fd"
    have hlen := hp.length_eq
    have hrl : (rgI n).length = n := by simp [rgI]
    rw [List.length_append, hrl] at hlen
    have h0 : lf = [] := List.length_eq_zero_iff.mp (by omega)
    subst h0
    exact ⟨hP, fd, rfl, hp⟩
theorem fn_turned (S : Stt) (h : Pool S) (n : Nat) (hn : n < 1000) : Fn (den__law_turned [.ref 1, .int n] S) (fun q s => Pool s ∧ ∃ l : List Int, q = .lst (iL l) ∧ l.length = n ∧ l.Nodup ∧ ∀ x ∈ l, 0 ≤ x ∧ x < n) noR :=
  Fn.mono (fn_turnedP S h n hn) (fun q s ⟨hP, l, e, hp⟩ => ⟨hP, l, e, by rw [hp.length_eq]; simp [rgI], (hp.nodup_iff).mpr (rgI_nd n), fun x hx => rgI_mem (hp.mem_iff.mp hx)⟩) fun _ _ _ h => h
theorem iL_set (xs : List Int) (i : Nat) (a : Int) : (iL xs).set i (.int a) = iL (xs.set i a) := by
  unfold iL
  rw [List.map_set]
theorem fn_law_batch (S : Stt) (h : Pool S) (p k : Int) (xs : List Int) (hg : Gnd p k xs) : Fn (den__law_batch [.ref 1, gv p k xs] S) (fun q s => Pool s ∧ ∃ f, q = tupI f ∧ Bt p k f) noR := by
  have hk1 := hg.k1
  have hk2 := hg.k2
  have hp1 := hg.pr.1
  have hp2 := hg.pr.2.1
  obtain ⟨n, rfl⟩ : ∃ n : Nat, k = n := ⟨k.toNat, by omega⟩
  unfold den__law_batch
  with_reducible refine fn_run ?_ ?_
  exact rfl
  unfold body__law_batch
  walk_at "fd"
  · rename_i s1 v1 hs1 _ _ _
    with_reducible refine wp_comp ?_
    walk_at "fd"
    refine x_rng1 (by omega) (by omega) ?_
    rw [Int.toNat_natCast]
    refine ⟨fun m acc e s => Pool s ∧ ∃ f : List Int, acc = iL f ∧ f.length = m ∧ (∀ x ∈ f, 0 ≤ x ∧ x < p) ∧ e = [.val (.ref 1), .val (gv p n xs), .val (.int p), .val (.int n), .val (tupI xs), .none, .none], ⟨hs1, [], rfl, rfl, (fun x hx => by cases hx), rfl⟩, fun m t acc e s hi ⟨hP, f, h1, h2, h3, e2⟩ => ?_, fun acc e s ⟨hP, f, h1, h2, h3, e2⟩ => ?_⟩
    · obtain ⟨hj, rfl⟩ := rng_get _ _ _ _ hi
      subst e2 h1
      walk_at "fd"
      rename_i s3 v3 hp3 hv0 hv1
      refine ⟨by rw [ints_len]; exact small_line (by omega), hp3, f ++ [v3], (by rw [← iL_app]; rfl), by simp [h2], fun x hx => ?_, rfl⟩
      rcases List.mem_append.mp hx with q | q
      · exact h3 x q
      · have : x = v3 := by simpa using q
        omega
    · subst e2 h1
      rw [List.length_map, List.length_range] at h2
      walk_at "fd"
      exact ⟨hP, f, rfl, by omega, h3⟩
  · rename_i s2 v2 hs2 hv20 hv21
    with_reducible refine wp_comp ?_
    walk_at "fd"
    refine x_rng1 (by omega) (by omega) ?_
    rw [Int.toNat_natCast]
    refine ⟨fun m acc e s => Pool s ∧ ∃ f : List Int, acc = iL f ∧ f.length = m ∧ (∀ x ∈ f, 0 ≤ x ∧ x < p) ∧ e = [.val (.ref 1), .val (gv p n xs), .val (.int p), .val (.int n), .val (tupI xs), .val (.int v2), .none], ⟨hs2, [], rfl, rfl, (fun x hx => by cases hx), rfl⟩, fun m t acc e s hi ⟨hP, f, h1, h2, h3, e2⟩ => ?_, fun acc e s ⟨hP, f, h1, h2, h3, e2⟩ => ?_⟩
    · obtain ⟨hj, rfl⟩ := rng_get _ _ _ _ hi
      subst e2 h1
      walk_at "fd"
      · refine ⟨by rw [ints_len]; exact small_line (by omega), hP, f ++ [p - 1], (by rw [← iL_app]; rfl), by simp [h2], fun x hx => ?_, rfl⟩
        rcases List.mem_append.mp hx with q | q
        · exact h3 x q
        · have : x = p - 1 := by simpa using q
          omega
      · refine ⟨by rw [ints_len]; exact small_line (by omega), hP, f ++ [0], (by rw [← iL_app]; rfl), by simp [h2], fun x hx => ?_, rfl⟩
        rcases List.mem_append.mp hx with q | q
        · exact h3 x q
        · have : x = 0 := by simpa using q
          omega
    · subst e2 h1
      rw [List.length_map, List.length_range] at h2
      walk_at "fd"
      exact ⟨hP, f, rfl, by omega, h3⟩
end
end I
end FS
set_option Elab.async false
set_option linter.all false
set_option pp.maxSteps 700
set_option maxRecDepth 100000
set_option maxHeartbeats 8000000
namespace FS
open PySem L2
namespace I
section
local macro_rules | `(tactic| walk_at "okm") => `(tactic| first | (exact okMul_l (by omega)) | (exact okMul_r (by omega)) | decide)
local macro_rules | `(tactic| walk_at "fsW") => `(tactic| first
  | (with_reducible refine wp_useL ?_)
  | (with_reducible refine wp_lenL ?_)
  | (with_reducible refine wp_ixL ?_)
  | (with_reducible refine wp_mthL ?_)
  | ((with_reducible refine wp_gtupC ?_ ?_); exact rfl)
  | ((with_reducible refine wp_gtupZ ?_ ?_); exact rfl))
local macro_rules | `(tactic| walk_at "fsE") => `(tactic| first
  | ((with_reducible show ∃ ys, _ = some (Slot.own ys) ∧ _); refine x_own1 rfl ?_)
  | ((with_reducible refine x_mul ?_ ?_); (walk_at "okm"))
  | ((with_reducible refine x_div ?_ ?_ ?_); omega; omega)
  | ((with_reducible refine x_mod ?_ ?_); omega)
  | ((with_reducible refine x_pow ?_ ?_); decide)
  | ((with_reducible show ∃ k, _ = some (PV.bl k) ∧ _); refine x_chain rfl ?_)
  | ((with_reducible show ∃ n ys, _ = PV.ref n ∧ _ = some (SO.lst ys) ∧ _); refine x_mR rfl rfl ?_)
  | ((with_reducible show ∃ w, pIx _ _ _ = some w ∧ _); refine x_ix rfl ?_)
  | ((with_reducible show ∃ w, fLen _ _ = some w ∧ _); refine x_len rfl ?_)
  | ((with_reducible show ∃ w, fInt _ _ = some w ∧ _); refine x_int rfl ?_)
  | ((with_reducible refine x_isi (w := .bl true) ?_ ?_); exact rfl)
  | ((with_reducible refine x_isi (w := .bl false) ?_ ?_); exact rfl)
  | ((with_reducible show ∃ w, fTuple _ _ = some w ∧ _); refine x_tupf rfl ?_)
  | ((with_reducible show ∃ w, fMin _ _ = some w ∧ _); refine x_minf rfl ?_)
  | ((with_reducible show ∃ w, fMax _ _ = some w ∧ _); refine x_maxf rfl ?_)
  | ((with_reducible show ∃ w, pCut _ _ _ _ = some w ∧ _); refine x_pcut rfl ?_)
  | ((with_reducible show ∃ w, itemsOf _ _ = some w ∧ _); refine x_itm rfl ?_)
  | ((with_reducible show ∃ w, itemsF _ = some w ∧ _); refine x_itF rfl ?_)
  | ((with_reducible show ∃ i, _ = PV.int i ∧ _); refine x_part rfl ?_)
  | ((with_reducible show ∃ p q, _ = [p, q] ∧ _); refine x_par rfl ?_)
  | ((with_reducible show ∃ n xs j m, _ = PV.ref n ∧ _ = PV.int j ∧ _ ∧ _ ∧ _); refine x_setR rfl rfl rfl rfl ?_))
local macro_rules | `(tactic| walk_at "fsR") => `(tactic| first
  | ((with_reducible show Wp _ _ _); (walk_at "fsW"))
  | ((with_reducible show Exists _); (walk_at "fsE"))
  | ((with_reducible show LkS _ _ _); first | refine lks_v rfl ?_ | refine lks_o rfl ?_)
  | ((with_reducible show _ ≤ sizeLine ∧ _); refine x_low rfl ?_)
  | ((with_reducible show List.length _ = _ ∧ _); refine x_num rfl ?_))
local macro_rules | `(tactic| walk_at "fs1") => `(tactic| first | (with_reducible refine run1 ?_) | (walk_at "fsR"))
local macro_rules | `(tactic| walk_at "fs0") => `(tactic| first | (with_reducible refine stp1 ?_) | (walk_at "fsR"))
local macro_rules | `(tactic| walk_at "fs") => `(tactic| repeat (walk_at "fs1"))
local macro_rules | `(tactic| walk_at "fsp") => `(tactic| (with_reducible refine x_spl ?_ ?_) <;> (intro h; first | (simp only [Bool.not_true, Bool.not_false, reduceCtorEq, decide_eq_true_eq, decide_eq_false_iff_not, Bool.not_eq_true', Bool.not_eq_false', Bool.and_eq_true, Int.not_lt, Int.not_le, Bool.or_eq_true, Bool.and_eq_false_iff, Bool.or_eq_false_iff, Bool.false_and, Bool.true_and, Bool.or_false, Bool.false_or, beq_self_eq_true, Bool.true_or, List.isEmpty_nil, List.isEmpty_cons] at h) | skip))
local macro_rules | `(tactic| walk_at "fss") => `(tactic| repeat' (first | (walk_at "fs1") | (walk_at "fsp")))
theorem fn_times (S : Stt) (p : Int) (f g : List Int) (hp : 1 < p) (hp2 : p ≤ 65521) (hf : Bl p f) (hg : Bl p g) (h1 : 1 ≤ f.length) (h2 : 1 ≤ g.length) (h3 : f.length < 500) (h4 : g.length < 500) : Fn (den_times [.int p, tupI f, tupI g] S) (fun q s => s = S ∧ q = tupI (tmv p f g)) noR := by
  have lf := ints_len f
  have lg := ints_len g
  unfold den_times
  with_reducible refine fn_run ?_ ?_
  exact rfl
  unfold body_times
  walk_at "fss"
  have eN : ((iL f).length : Int) + ((iL g).length : Int) - 1 = ((f.length + g.length - 1 : Nat) : Int) := by omega
  rw [eN]
  generalize hN : f.length + g.length - 1 = N
  refine ⟨_, _, rfl, rfl, rep_ok _ (by omega), ?_⟩
  rw [Int.toNat_natCast, iL_rep, tmv_start p g N f]
  walk_at "fss"
  with_reducible refine wp_for ?_
  walk_at "fss"
  rw [lf]
  refine x_rng1 (by omega) (by omega) ?_
  rw [Int.toNat_natCast]
  refine ⟨fun i e s => s = S ∧ ∃ x4 x5, e = [.val (.int p), .val (tupI f), .val (tupI g), .own (iL ((List.range N).map fun n => cv (f.take i) g n % p)), x4, x5], ⟨rfl, _, _, rfl⟩, fun i t e s hi ⟨e1, x4, x5, e2⟩ => ?_, fun e s ⟨e1, x4, x5, e2⟩ => ?_⟩
  · obtain ⟨hj, rfl⟩ := rng_get _ _ _ _ hi
    have fa : f[i]? = some f[i] := List.getElem?_eq_getElem hj
    have ha := hf _ (List.getElem_mem hj)
    generalize f[i] = a at fa ha
    subst e1 e2
    rw [← tmJ_zero p (cv (f.take i) g) a g i N]
    walk_at "fss"
    with_reducible refine wp_for ?_
    walk_at "fss"
    rw [lg]
    refine x_rng1 (by omega) (by omega) ?_
    rw [Int.toNat_natCast]
    refine ⟨fun j e s' => s' = s ∧ ∃ x5, e = [.val (.int p), .val (tupI f), .val (tupI g), .own (iL (tmJ p (cv (f.take i) g) a g i j N)), .val (.int i), x5], ⟨rfl, _, rfl⟩, fun j t e s' hj2 ⟨e1, x5, e2⟩ => ?_, fun e s' ⟨e1, x5, e2⟩ => ?_⟩
    · obtain ⟨hj3, rfl⟩ := rng_get _ _ _ _ hj2
      have gb : g[j]? = some g[j] := List.getElem?_eq_getElem hj3
      have hb := hg _ (List.getElem_mem hj3)
      generalize g[j] = b at gb hb
      have eij : (i : Int) + (j : Int) = ((i + j : Nat) : Int) := by omega
      have hij : i + j < N := by omega
      have hll : (iL (tmJ p (cv (f.take i) g) a g i j N)).length = N := by rw [ints_len, tmJ_len]
      subst e1 e2
      walk_at "fss"
      rw [eij]
      refine ⟨_, _, _, rfl, rfl, ints_at (tmJ_at hij), ?_⟩
      walk_at "fss"
      refine x_ix (ints_at fa) ?_
      walk_at "fss"
      refine x_ix (ints_at gb) ?_
      walk_at "fss"
      rw [eij]
      refine x_setO rfl rfl (ixN_nat (by rw [hll]; exact hij)) ?_
      walk_at "fss"
      rw [iL_set, tmJ_set gb hij]
      exact ⟨rfl, _, rfl⟩
    · subst e1 e2
      rw [List.length_map, List.length_range, tmJ_done fa]
      exact ⟨rfl, _, _, rfl⟩
  · subst e1 e2
    rw [List.length_map, List.length_range, List.take_of_length_le (Nat.le_refl _)]
    walk_at "fss"
    refine ⟨rfl, ?_⟩
    unfold tmv
    rw [hN]
theorem fn_line (S : Stt) (p x : Int) (hp : 1 < p) (hx : 0 ≤ x ∧ x ≤ p) : Fn (den_line [.int p, .int x] S) (fun q s => s = S ∧ q = tupI (lnv p x)) noR := by
  unfold den_line
  with_reducible refine fn_run ?_ ?_
  exact rfl
  unfold body_line
  walk_at "fss"
  · rename_i h
    refine ⟨rfl, ?_⟩
    unfold lnv
    rw [if_pos h]
    rfl
  · rename_i h
    refine ⟨rfl, ?_⟩
    unfold lnv
    rw [if_neg h]
    rfl
theorem fn_shelves (S : Stt) (p k : Int) (xs : List Int) (hg : Gnd p k xs) : Fn (den_shelves [gv p k xs] S) (fun q s => s = S ∧ q = .int xs.length) noR := by
  have hl := ints_len xs
  unfold den_shelves
  with_reducible refine fn_run ?_ ?_
  exact rfl
  unfold body_shelves
  walk_at "fss"
  refine no_implicit_lambda% (Fn.mono (fn_made_ground S p k xs hg) (fun q s ⟨e1, e2⟩ => ?_) fun _ _ _ h => h.elim)
  subst e1 e2
  walk_at "fss"
  rw [hl]
  exact ⟨rfl, rfl⟩
def nI (ns : List Nat) : List Int := ns.map fun (n : Nat) => (n : Int)
theorem nI_len (ns : List Nat) : (nI ns).length = ns.length := List.length_map ..
theorem nI_get {ns : List Nat} {i : Nat} {n : Nat} (h : ns[i]? = some n) : (nI ns)[i]? = some (n : Int) := by
  unfold nI
  rw [List.getElem?_map, h]
  rfl
theorem nI_at {ns : List Nat} {i : Nat} {a : Int} (h : (nI ns)[i]? = some a) : ∃ n : Nat, ns[i]? = some n ∧ a = n := by
  unfold nI at h
  rw [List.getElem?_map] at h
  cases q : ns[i]? with
  | none => rw [q] at h; cases h
  | some n =>
    rw [q] at h
    exact ⟨n, rfl, (Option.some.inj h).symm⟩
theorem nI_sum (ns : List Nat) : (nI ns).sum = (ns.sum : Int) := by
  induction ns with
  | nil => rfl
  | cons n ns ih =>
    show (n : Int) + (nI ns).sum = ((n + ns.sum : Nat) : Int)
    rw [ih]
    omega
theorem sum_at {ns : List Nat} {i n : Nat} (h : ns[i]? = some n) : (ns.take i).sum + n ≤ ns.sum := by
  induction ns generalizing i with
  | nil => cases h
  | cons m ns ih =>
    cases i with
    | zero =>
      have : m = n := Option.some.inj h
      subst this
      simp
    | succ i =>
      have := ih (i := i) h
      simp
      omega
theorem zip_take_sum {xs : List Int} {ns : List Nat} (h : ns.length = xs.length) (i : Nat) : (((xs.zip ns).take i).map (·.2)).sum = (ns.take i).sum := by
  have e : (xs.zip ns).map (·.2) = ns := List.map_snd_zip (by omega)
  rw [List.map_take, e]
theorem zip_at {xs : List Int} {ns : List Nat} {i : Nat} {x : Int} {n : Nat} (h1 : xs[i]? = some x) (h2 : ns[i]? = some n) : (xs.zip ns)[i]? = some (x, n) := by
  rw [List.getElem?_zip_eq_some]
  exact ⟨h1, h2⟩
theorem prv_next {p x : Int} {xs : List Int} {ns : List Nat} {i n : Nat} (h1 : xs[i]? = some x) (h2 : ns[i]? = some n) (f : List Int) : prv p ((xs.zip ns).take (i + 1)) f = pwv p (lnv p x) n (prv p ((xs.zip ns).take i) f) := by
  rw [take_next (zip_at h1 h2), prv_snoc]
theorem fn_made_lengths (S : Stt) (p k : Int) (xs : List Int) (ns : List Nat) (hg : Gnd p k xs) (hl : ns.length = xs.length) (hn : ∀ n ∈ ns, n ≤ 1024) : Fn (den_made_lengths [gv p k xs, tupI (nI ns)] S) (fun q s => s = S ∧ q = tupI (nI ns)) noR := by
  have h1 := ints_len (nI ns)
  rw [nI_len] at h1
  have hn2 := hg.n2
  unfold den_made_lengths
  with_reducible refine fn_run ?_ ?_
  exact rfl
  unfold body_made_lengths
  walk_at "fss"
  refine no_implicit_lambda% (Fn.mono (fn_shelves S p k xs hg) (fun q s ⟨e1, e2⟩ => ?_) fun _ _ _ h => h.elim)
  subst e1 e2
  walk_at "fss"
  · omega
  with_reducible refine wp_for ?_
  walk_at "fss"
  refine x_rng1 (by omega) (by omega) ?_
  rw [Int.toNat_natCast]
  refine ⟨fun i e s' => s' = s ∧ ∃ x, e = [.val (gv p k xs), .val (tupI (nI ns)), .val (.int xs.length), x], ⟨rfl, _, rfl⟩, fun i t e s' hi ⟨e1, x, e2⟩ => ?_, fun e s' ⟨e1, x, e2⟩ => ?_⟩
  · obtain ⟨hj, rfl⟩ := rng_get _ _ _ _ hi
    have hx : ns[i]? = some ns[i] := List.getElem?_eq_getElem (by omega)
    have hm := hn _ (List.mem_of_getElem? hx)
    generalize ns[i] = n at hx hm
    subst e1 e2
    walk_at "fss"
    refine x_ix (ints_at (nI_get hx)) ?_
    walk_at "fss"
    refine no_implicit_lambda% (Fn.mono (fn_is_whole s' (.int n) 0 1024 (.inl ⟨_, rfl⟩)) (fun q s ⟨e1, e2⟩ => ?_) fun _ _ _ h => h.elim)
    subst e1 e2
    have hw : isW 0 1024 (.int (n : Int)) = true := by
      simp [isW]
      omega
    rw [hw]
    walk_at "fss"
    exact ⟨rfl, _, rfl⟩
  · subst e1 e2
    walk_at "fss"
    exact ⟨rfl, rfl⟩
theorem fn_product (S : Stt) (p k : Int) (xs : List Int) (ns : List Nat) (hg : Gnd p k xs) (hl : ns.length = xs.length) (hn : ns.sum ≤ 98) : Fn (den_product [gv p k xs, tupI (nI ns)] S) (fun q s => s = S ∧ q = tupI (prv p (xs.zip ns) [1])) noR := by
  have h1 := ints_len (nI ns)
  rw [nI_len] at h1
  have hx := ints_len xs
  have hn2 := hg.n2
  have hp1 := hg.pr.1
  have hp2 := hg.pr.2.1
  have hle : ∀ n ∈ ns, n ≤ 98 := fun n hm => by
    obtain ⟨i, hi⟩ := List.getElem?_of_mem hm
    have := sum_at hi
    omega
  unfold den_product
  with_reducible refine fn_run ?_ ?_
  exact rfl
  unfold body_product
  walk_at "fss"
  refine no_implicit_lambda% (Fn.mono (fn_made_ground S p k xs hg) (fun q s ⟨e1, e2⟩ => ?_) fun _ _ _ h => h.elim)
  subst e1 e2
  walk_at "fss"
  refine no_implicit_lambda% (Fn.mono (fn_made_lengths s p k xs ns hg hl fun n hm => Nat.le_trans (hle n hm) (by omega)) (fun q s ⟨e1, e2⟩ => ?_) fun _ _ _ h => h.elim)
  subst e1 e2
  walk_at "fss"
  refine x_sumT (intsOf_map (nI ns)) ?_
  rw [nI_sum]
  walk_at "fss"
  · omega
  with_reducible refine wp_for ?_
  walk_at "fss"
  refine x_zipM rfl rfl ?_
  have b1 : Bl p [1] := fun x hx => by
    have : x = 1 := by simpa using hx
    omega
  refine ⟨fun i e s' => s' = s ∧ ∃ x7 x8 x9, e = [.val (gv p k xs), .val (tupI (nI ns)), .val (.int p), .val (.int k), .val (tupI xs), .val (tupI (nI ns)), .val (tupI (prv p ((xs.zip ns).take i) [1])), x7, x8, x9], ⟨rfl, _, _, _, rfl⟩, fun i t e s' hi ⟨e1, x7, x8, x9, e2⟩ => ?_, fun e s' ⟨e1, x7, x8, x9, e2⟩ => ?_⟩
  · rw [List.getElem?_map] at hi
    cases hc : ((iL xs).zip (iL (nI ns)))[i]? with
    | none => rw [hc] at hi; cases hi
    | some c =>
    rw [hc] at hi
    have et : t = .tuz [c.1, c.2] := (Option.some.inj hi).symm
    obtain ⟨c1, c2⟩ := List.getElem?_zip_eq_some.mp hc
    obtain ⟨a, b⟩ := c
    obtain ⟨x, gx, e3⟩ := iL_get c1
    obtain ⟨m, gm, e4⟩ := iL_get c2
    obtain ⟨n, gn, rfl⟩ := nI_at gm
    simp only at et e3 e4
    subst e3 e4 et
    have rx := hg.rg x (List.mem_of_getElem? gx)
    have hs := sum_at gn
    have hF1 := prv_len p ((xs.zip ns).take i) [1] (Nat.le_refl 1)
    rw [zip_take_sum hl] at hF1
    have hF2 := prv_bl (by omega) ((xs.zip ns).take i) [1] b1
    rw [show ([1] : List Int).length = 1 from rfl] at hF1
    have hnx := prv_next (p := p) gx gn [1]
    generalize prv p ((xs.zip ns).take i) [1] = F at hF1 hF2 hnx e2
    subst e1 e2
    walk_at "fss"
    with_reducible refine wp_for ?_
    walk_at "fss"
    refine x_rng1 (by omega) (by omega) ?_
    rw [Int.toNat_natCast]
    refine ⟨fun j e s => s = s' ∧ ∃ x9, e = [.val (gv p k xs), .val (tupI (nI ns)), .val (.int p), .val (.int k), .val (tupI xs), .val (tupI (nI ns)), .val (tupI (pwv p (lnv p x) j F)), .val (.int x), .val (.int n), x9], ⟨rfl, _, rfl⟩, fun j t e s hi2 ⟨e1, x9, e2⟩ => ?_, fun e s ⟨e1, x9, e2⟩ => ?_⟩
    · obtain ⟨hj, rfl⟩ := rng_get _ _ _ _ hi2
      have hpl := pwv_len (p := p) (lnv_len p x) F j (by omega)
      subst e1 e2
      walk_at "fss"
      refine no_implicit_lambda% (Fn.mono (fn_line s p x (by omega) rx) (fun q s ⟨e1, e2⟩ => ?_) fun _ _ _ h => h.elim)
      subst e1 e2
      walk_at "fss"
      refine no_implicit_lambda% (Fn.mono (fn_times s p _ _ (by omega) hp2 (pwv_bl (by omega) hF2 j) (lnv_bl (by omega)) (by omega) (by rw [lnv_len]; omega) (by omega) (by rw [lnv_len]; omega)) (fun q s ⟨e1, e2⟩ => ?_) fun _ _ _ h => h.elim)
      subst e1 e2
      walk_at "fss"
      exact ⟨rfl, _, rfl⟩
    · subst e1 e2
      rw [List.length_map, List.length_range, ← hnx]
      exact ⟨rfl, _, _, _, rfl⟩
  · subst e1 e2
    rw [List.length_map, List.length_zip, h1, hx, List.take_of_length_le (by rw [List.length_zip]; omega)]
    walk_at "fss"
    exact ⟨rfl, rfl⟩
theorem x_addT {s : Stt} {xs ys : List PV} {Q : PV → Prop} (h : xs.length + ys.length ≤ sizeLine) (hq : Q (.tup (xs ++ ys))) : ∃ w, pAdd s (.tup xs) (.tup ys) = some w ∧ Q w := ⟨_, by
  show (if xs.length + ys.length ≤ sizeLine then some (PV.tup (xs ++ ys)) else none) = _
  rw [if_pos h], hq⟩
theorem small2 {a b : Nat} (h : a + b < 100000) : a + b ≤ sizeLine := Nat.le_of_lt (small_line h)
theorem fn_ways_left (S : Stt) (p : Int) (k : Nat) (xs : List Int) (ns : List Nat) (hg : Gnd p k xs) (hl : ns.length = xs.length) (hn : ∀ n ∈ ns, n ≤ 1024) : Fn (den_ways_left [gv p k xs, tupI (nI ns)] S) (fun q s => s = S ∧ q = .int (k - ns.sum : Nat)) noR := by
  unfold den_ways_left
  with_reducible refine fn_run ?_ ?_
  exact rfl
  unfold body_ways_left
  walk_at "fss"
  refine no_implicit_lambda% (Fn.mono (fn_made_lengths S p k xs ns hg hl hn) (fun q s ⟨e1, e2⟩ => ?_) fun _ _ _ h => h.elim)
  subst e1 e2
  walk_at "fss"
  refine x_sumT (intsOf_map (nI ns)) ?_
  rw [nI_sum]
  walk_at "fss"
  refine ⟨rfl, ?_⟩
  congr 1
  split <;> omega
end
end I
end FS
set_option Elab.async false
set_option linter.all false
set_option pp.maxSteps 700
set_option maxRecDepth 100000
set_option maxHeartbeats 8000000
namespace FS
open PySem L2
namespace I
section
local macro_rules | `(tactic| walk_at "okm") => `(tactic| first | (exact okMul_l (by omega)) | (exact okMul_r (by omega)) | decide)
local macro_rules | `(tactic| walk_at "fsW") => `(tactic| first
  | (with_reducible refine wp_useL ?_)
  | (with_reducible refine wp_lenL ?_)
  | (with_reducible refine wp_ixL ?_)
  | (with_reducible refine wp_mthL ?_)
  | ((with_reducible refine wp_gtupC ?_ ?_); exact rfl)
  | ((with_reducible refine wp_gtupZ ?_ ?_); exact rfl))
local macro_rules | `(tactic| walk_at "fsE") => `(tactic| first
  | ((with_reducible show ∃ ys, _ = some (Slot.own ys) ∧ _); refine x_own1 rfl ?_)
  | ((with_reducible refine x_mul ?_ ?_); (walk_at "okm"))
  | ((with_reducible refine x_div ?_ ?_ ?_); omega; omega)
  | ((with_reducible refine x_mod ?_ ?_); omega)
  | ((with_reducible refine x_pow ?_ ?_); decide)
  | ((with_reducible show ∃ k, _ = some (PV.bl k) ∧ _); refine x_chain rfl ?_)
  | ((with_reducible show ∃ n ys, _ = PV.ref n ∧ _ = some (SO.lst ys) ∧ _); refine x_mR rfl rfl ?_)
  | ((with_reducible show ∃ w, pIx _ _ _ = some w ∧ _); refine x_ix rfl ?_)
  | ((with_reducible show ∃ w, fLen _ _ = some w ∧ _); refine x_len rfl ?_)
  | ((with_reducible show ∃ w, fInt _ _ = some w ∧ _); refine x_int rfl ?_)
  | ((with_reducible refine x_isi (w := .bl true) ?_ ?_); exact rfl)
  | ((with_reducible refine x_isi (w := .bl false) ?_ ?_); exact rfl)
  | ((with_reducible show ∃ w, fTuple _ _ = some w ∧ _); refine x_tupf rfl ?_)
  | ((with_reducible show ∃ w, fMin _ _ = some w ∧ _); refine x_minf rfl ?_)
  | ((with_reducible show ∃ w, fMax _ _ = some w ∧ _); refine x_maxf rfl ?_)
  | ((with_reducible show ∃ w, pCut _ _ _ _ = some w ∧ _); refine x_pcut rfl ?_)
  | ((with_reducible show ∃ w, itemsOf _ _ = some w ∧ _); refine x_itm rfl ?_)
  | ((with_reducible show ∃ w, itemsF _ = some w ∧ _); refine x_itF rfl ?_)
  | ((with_reducible show ∃ i, _ = PV.int i ∧ _); refine x_part rfl ?_)
  | ((with_reducible show ∃ p q, _ = [p, q] ∧ _); refine x_par rfl ?_)
  | ((with_reducible show ∃ n xs j m, _ = PV.ref n ∧ _ = PV.int j ∧ _ ∧ _ ∧ _); refine x_setR rfl rfl rfl rfl ?_))
local macro_rules | `(tactic| walk_at "fsR") => `(tactic| first
  | ((with_reducible show Wp _ _ _); (walk_at "fsW"))
  | ((with_reducible show Exists _); (walk_at "fsE"))
  | ((with_reducible show LkS _ _ _); first | refine lks_v rfl ?_ | refine lks_o rfl ?_)
  | ((with_reducible show _ ≤ sizeLine ∧ _); refine x_low rfl ?_)
  | ((with_reducible show List.length _ = _ ∧ _); refine x_num rfl ?_))
local macro_rules | `(tactic| walk_at "fs1") => `(tactic| first | (with_reducible refine run1 ?_) | (walk_at "fsR"))
local macro_rules | `(tactic| walk_at "fs0") => `(tactic| first | (with_reducible refine stp1 ?_) | (walk_at "fsR"))
local macro_rules | `(tactic| walk_at "fs") => `(tactic| repeat (walk_at "fs1"))
local macro_rules | `(tactic| walk_at "fsp") => `(tactic| (with_reducible refine x_spl ?_ ?_) <;> (intro h; first | (simp only [Bool.not_true, Bool.not_false, reduceCtorEq, decide_eq_true_eq, decide_eq_false_iff_not, Bool.not_eq_true', Bool.not_eq_false', Bool.and_eq_true, Int.not_lt, Int.not_le, Bool.or_eq_true, Bool.and_eq_false_iff, Bool.or_eq_false_iff, Bool.false_and, Bool.true_and, Bool.or_false, Bool.false_or, beq_self_eq_true, Bool.true_or, List.isEmpty_nil, List.isEmpty_cons] at h) | skip))
local macro_rules | `(tactic| walk_at "fss") => `(tactic| repeat' (first | (walk_at "fs1") | (walk_at "fsp")))
theorem filter_next (f : Nat → Bool) (m : Nat) : (List.range (m + 1)).filter f = (List.range m).filter f ++ (if f m then [m] else []) := by
  rw [List.range_succ, List.filter_append]
  cases h : f m
  · rw [List.filter_cons_of_neg (by rw [h]; decide)]
    rfl
  · rw [List.filter_cons_of_pos h]
    rfl
theorem filter_le (f : Nat → Bool) (m : Nat) : ((List.range m).filter f).length ≤ m := Nat.le_trans (List.length_filter_le _ _) (by simp)
theorem nI_app (a : List Nat) (b : Nat) : iL (nI (a ++ [b])) = iL (nI a) ++ [.int b] := by
  unfold nI
  rw [List.map_append, ← iL_app]
  rfl
theorem at_getD {r : List Int} {i : Nat} (h : i < r.length) : atI (iL r) (i : Int) = some (.int (r.getD i 0)) := ints_at (by rw [List.getElem?_eq_getElem h, List.getD_eq_getElem?_getD, List.getElem?_eq_getElem h]; rfl)
theorem eqvAll_iL : ∀ xs ys : List Int, PyData.eqvAll (toDs (iL xs)) (toDs (iL ys)) = decide (xs = ys)
  | [], [] => rfl
  | [], y :: ys => by simp [iL, toDs, PyData.eqvAll]
  | x :: xs, [] => by simp [iL, toDs, PyData.eqvAll]
  | x :: xs, y :: ys => by
    have ih := eqvAll_iL xs ys
    show (PyData.eqv (PV.int x).toD (PV.int y).toD && PyData.eqvAll (toDs (iL xs)) (toDs (iL ys))) = _
    rw [ih, show PyData.eqv (PV.int x).toD (PV.int y).toD = decide (x = y) from eqv_int]
    simp
theorem eqv_nil_cons (x : PV) (xs : List PV) : eqv (.lst (x :: xs)) (.lst []) = false := by simp [eqv, PV.toD, toDs, PyData.eqv, PyData.eqvAll]
theorem zip_fst {xs : List Int} {ns : List Nat} (h : ns.length = xs.length) : (xs.zip ns).map (·.1) = xs := List.map_fst_zip (by omega)
theorem zip_snd {xs : List Int} {ns : List Nat} (h : ns.length = xs.length) : (xs.zip ns).map (·.2) = ns := List.map_snd_zip (by omega)
theorem pts_ok {p k : Int} {xs : List Int} {ns : List Nat} (hg : Gnd p k xs) (h : ns.length = xs.length) : PtsOk p (xs.zip ns) := ⟨by rw [zip_fst h]; exact hg.nd, fun q hq => hg.rg _ (by
  have : q.1 ∈ (xs.zip ns).map (·.1) := List.mem_map.mpr ⟨q, hq, rfl⟩
  rwa [zip_fst h] at this)⟩
theorem knL_all {p : Int} {P : List (Int × Nat)} {k : Nat} (h : k ≤ (P.map (·.2)).sum) : knL p P k = List.range k := by
  unfold knL
  refine List.filter_eq_self.mpr fun t _ => ?_
  unfold knB
  rw [if_pos h]
theorem rng_nI (k : Nat) : ((List.range k).map fun (i : Nat) => PV.int i) = iL (nI (List.range k)) := by
  unfold iL nI
  rw [List.map_map]
  rfl
/-- ones for the places from lo on that are not 0 -/
def onesL (F : List Int) (lo m : Nat) : List PV := ((List.range m).filter fun i => decide (F.getD (lo + i) 0 ≠ 0)).map fun _ => PV.int 1
theorem onesL_next (F : List Int) (lo m : Nat) : onesL F lo (m + 1) = onesL F lo m ++ (if F.getD (lo + m) 0 ≠ 0 then [PV.int 1] else []) := by
  unfold onesL
  rw [filter_next, List.map_append]
  congr 1
  by_cases h : F.getD (lo + m) 0 = 0
  · rw [if_neg (by simpa using h), if_neg (by simpa using h)]
    rfl
  · rw [if_pos (by simpa using h), if_pos (by simpa using h)]
    rfl
theorem onesL_le (F : List Int) (lo m : Nat) : (onesL F lo m).length ≤ m := by
  unfold onesL
  rw [List.length_map]
  exact filter_le ..
theorem onesL_eq {s : Stt} (F : List Int) (lo m : Nat) : ∃ b, pEq s (.lst (onesL F lo m)) (.lst []) = some (.bl b) ∧ (b = true ↔ ∀ i, i < m → F.getD (lo + i) 0 = 0) := by
  unfold onesL
  cases hS : (List.range m).filter fun i => decide (F.getD (lo + i) 0 ≠ 0) with
  | nil =>
    refine ⟨true, show pEq s (.lst []) (.lst []) = some (.bl true) from by with_unfolding_all rfl, fun _ i hi => ?_, fun _ => rfl⟩
    have := List.filter_eq_nil_iff.mp hS i (List.mem_range.mpr hi)
    simpa using this
  | cons a R =>
    refine ⟨false, pEq_v (List.all_eq_true.mpr fun x hx => by
        obtain ⟨y, _, rfl⟩ := List.mem_map.mp hx
        rfl) rfl rfl rfl (eqv_nil_cons _ _), fun h => (by cases h), fun h => ?_⟩
    have hm : a ∈ (List.range m).filter fun i => decide (F.getD (lo + i) 0 ≠ 0) := by rw [hS]; exact List.mem_cons_self ..
    rw [List.mem_filter] at hm
    exact absurd (h a (List.mem_range.mp hm.1)) (of_decide_eq_true hm.2)
theorem fn_early (S : Stt) (p : Int) (k : Nat) (xs : List Int) (ns : List Nat) (hg : Gnd p k xs) (hl : ns.length = xs.length) (hn : ns.sum ≤ 98) (hn2 : ∀ n ∈ ns, n ≤ 1024) : Fn (den_early [gv p k xs, tupI (nI ns)] S) (fun q s => s = S ∧ q = tupI (nI (knL p (xs.zip ns) k))) noR := by
  have hk2 := hg.k2
  have hk1 := hg.k1
  have hp1 := hg.pr.1
  unfold den_early
  with_reducible refine fn_run ?_ ?_
  exact rfl
  unfold body_early
  walk_at "fss"
  refine no_implicit_lambda% (Fn.mono (fn_made_ground S p k xs hg) (fun q s ⟨e1, e2⟩ => ?_) fun _ _ _ h => h.elim)
  subst e1 e2
  walk_at "fss"
  refine no_implicit_lambda% (Fn.mono (fn_ways_left s p k xs ns hg hl hn2) (fun q s ⟨e1, e2⟩ => ?_) fun _ _ _ h => h.elim)
  subst e1 e2
  walk_at "fss"
  · rename_i h
    refine ⟨⟨by unfold okR; simp; omega, by omega⟩, ?_⟩
    rw [Int.toNat_natCast, rng_nI]
    refine ⟨rfl, ?_⟩
    rw [knL_all (by rw [zip_snd hl]; omega)]
  · rename_i h
    refine no_implicit_lambda% (Fn.mono (fn_product s p k xs ns hg hl hn) (fun q s ⟨e1, e2⟩ => ?_) fun _ _ _ h => h.elim)
    subst e1 e2
    have hF := prv_len p (xs.zip ns) [1] (Nat.le_refl 1)
    rw [zip_snd hl, show ([1] : List Int).length = 1 from rfl] at hF
    have hkn : knB p (xs.zip ns) k = fun t => decide (∀ a, a < t + 1 → t + 1 ≤ a + (k - ns.sum) → (prv p (xs.zip ns) [1]).getD a 0 = 0) := by
      funext t
      unfold knB
      rw [zip_snd hl, if_neg (by omega)]
    unfold knL
    generalize hf : knB p (xs.zip ns) k = f at *
    generalize prv p (xs.zip ns) [1] = F at *
    have lF := ints_len F
    walk_at "fss"
    with_reducible refine wp_for ?_
    walk_at "fss"
    refine x_rng1 (by omega) (by omega) ?_
    rw [Int.toNat_natCast]
    refine ⟨fun m e s' => s' = s ∧ ∃ x6, e = [.val (gv p k xs), .val (tupI (nI ns)), .val (.int k), .val (.int (k - ns.sum : Nat)), .val (tupI F), .own (iL (nI ((List.range m).filter f))), x6, .none], ⟨rfl, _, rfl⟩, fun m t e s' hi ⟨e1, x6, e2⟩ => ?_, fun e s' ⟨e1, x6, e2⟩ => ?_⟩
    · obtain ⟨hm, rfl⟩ := rng_get _ _ _ _ hi
      have hfn := filter_next f m
      have hfl := filter_le f m
      have hfm := congrFun hkn m
      subst e1 e2
      walk_at "fss"
      with_reducible refine wp_comp ?_
      walk_at "fss"
      have hlo : ∃ lo : Nat, (if (m : Int) - ((k - ns.sum : Nat) : Int) + 1 > 0 then (m : Int) - ((k - ns.sum : Nat) : Int) + 1 else 0) = (lo : Int) ∧ m + 1 ≤ lo + (k - ns.sum) ∧ (lo = 0 ∨ m + 1 = lo + (k - ns.sum)) := by
        by_cases hz : (m : Int) - ((k - ns.sum : Nat) : Int) + 1 > 0
        · exact ⟨m + 1 - (k - ns.sum), by rw [if_pos hz]; omega, by omega, by omega⟩
        · exact ⟨0, by rw [if_neg hz]; rfl, by omega, by omega⟩
      obtain ⟨lo, elo, hlo1, hlo2⟩ := hlo
      have hhi : ∃ hb : Nat, (if (F.length : Int) < (m : Int) + 1 then (F.length : Int) else (m : Int) + 1) = (hb : Int) ∧ hb ≤ F.length ∧ hb ≤ m + 1 ∧ (hb = F.length ∨ hb = m + 1) := by
        by_cases hz : (F.length : Int) < (m : Int) + 1
        · exact ⟨F.length, by rw [if_pos hz], by omega, by omega, by omega⟩
        · exact ⟨m + 1, by rw [if_neg hz]; omega, by omega, by omega, by omega⟩
      obtain ⟨hb, ehb, hh1, hh2, hh3⟩ := hhi
      rw [lF, elo, ehb]
      refine x_rng2 (by omega) (by omega) (by omega) (by omega) ?_
      refine ⟨fun i acc e s => s = s' ∧ acc = onesL F lo i ∧ e = [.val (gv p k xs), .val (tupI (nI ns)), .val (.int k), .val (.int (k - ns.sum : Nat)), .val (tupI F), .own (iL (nI ((List.range m).filter f))), .val (.int m), .none], ⟨rfl, rfl, rfl⟩, fun i q acc e s hi ⟨e1, h1, e2⟩ => ?_, fun acc e s ⟨e1, h1, e2⟩ => ?_⟩
      · obtain ⟨hi2, rfl⟩ := rng_get _ _ _ _ hi
        have hox := onesL_next F lo i
        have hol := onesL_le F lo i
        have eij : (lo : Int) + (i : Int) = ((lo + i : Nat) : Int) := by omega
        subst e1 e2 h1
        walk_at "fss"
        rw [eij]
        refine x_ix (at_getD (by omega)) ?_
        walk_at "fss"
        · rename_i h0
          rw [if_pos (by simpa using h0)] at hox
          exact ⟨small_line (by omega), rfl, hox.symm, rfl⟩
        · rename_i h0
          rw [if_neg (by simpa using h0), List.append_nil] at hox
          exact ⟨rfl, hox.symm, rfl⟩
      subst e1 e2 h1
      rw [List.length_map, List.length_range]
      walk_at "fss"
      obtain ⟨b, hb1, hb2⟩ := onesL_eq (s := s) F lo ((hb : Int) - (lo : Int)).toNat
      have hbf : b = f m := by
        rw [hfm]
        refine Bool.eq_iff_iff.mpr (hb2.trans ?_)
        rw [decide_eq_true_eq]
        constructor
        · intro q a ha1 ha2
          by_cases haF : a < F.length
          · have := q (a - lo) (by omega)
            rwa [show lo + (a - lo) = a by omega] at this
          · exact getD_out (by omega)
        · intro q i hi
          exact q (lo + i) (by omega) (by omega)
      rw [← hbf] at hfn
      refine ⟨_, hb1, ?_⟩
      cases b with
      | true =>
        walk_at "fss"
        refine x_mfO rfl (app_ok (small_line (by rw [ints_len, nI_len]; omega))) ?_
        walk_at "fss"
        refine ⟨rfl, .val (.int m), ?_⟩
        rw [hfn, if_pos rfl, nI_app]
        rfl
      | false =>
        walk_at "fss"
        refine ⟨rfl, .val (.int m), ?_⟩
        rw [hfn, if_neg Bool.false_ne_true, List.append_nil]
        rfl
    · subst e1 e2
      rw [List.length_map, List.length_range]
      walk_at "fss"
      exact ⟨rfl, rfl⟩
end
end I
end FS
set_option Elab.async false
set_option linter.all false
set_option pp.maxSteps 700
set_option maxRecDepth 100000
set_option maxHeartbeats 8000000
namespace FS
open PySem L2
namespace I
section
local macro_rules | `(tactic| walk_at "okm") => `(tactic| first | (exact okMul_l (by omega)) | (exact okMul_r (by omega)) | decide)
local macro_rules | `(tactic| walk_at "fsW") => `(tactic| first
  | (with_reducible refine wp_useL ?_)
  | (with_reducible refine wp_lenL ?_)
  | (with_reducible refine wp_ixL ?_)
  | (with_reducible refine wp_mthL ?_)
  | ((with_reducible refine wp_gtupC ?_ ?_); exact rfl)
  | ((with_reducible refine wp_gtupZ ?_ ?_); exact rfl))
local macro_rules | `(tactic| walk_at "fsE") => `(tactic| first
  | ((with_reducible show ∃ ys, _ = some (Slot.own ys) ∧ _); refine x_own1 rfl ?_)
  | ((with_reducible refine x_mul ?_ ?_); (walk_at "okm"))
  | ((with_reducible refine x_div ?_ ?_ ?_); omega; omega)
  | ((with_reducible refine x_mod ?_ ?_); omega)
  | ((with_reducible refine x_pow ?_ ?_); decide)
  | ((with_reducible show ∃ k, _ = some (PV.bl k) ∧ _); refine x_chain rfl ?_)
  | ((with_reducible show ∃ n ys, _ = PV.ref n ∧ _ = some (SO.lst ys) ∧ _); refine x_mR rfl rfl ?_)
  | ((with_reducible show ∃ w, pIx _ _ _ = some w ∧ _); refine x_ix rfl ?_)
  | ((with_reducible show ∃ w, fLen _ _ = some w ∧ _); refine x_len rfl ?_)
  | ((with_reducible show ∃ w, fInt _ _ = some w ∧ _); refine x_int rfl ?_)
  | ((with_reducible refine x_isi (w := .bl true) ?_ ?_); exact rfl)
  | ((with_reducible refine x_isi (w := .bl false) ?_ ?_); exact rfl)
  | ((with_reducible show ∃ w, fTuple _ _ = some w ∧ _); refine x_tupf rfl ?_)
  | ((with_reducible show ∃ w, fMin _ _ = some w ∧ _); refine x_minf rfl ?_)
  | ((with_reducible show ∃ w, fMax _ _ = some w ∧ _); refine x_maxf rfl ?_)
  | ((with_reducible show ∃ w, pCut _ _ _ _ = some w ∧ _); refine x_pcut rfl ?_)
  | ((with_reducible show ∃ w, itemsOf _ _ = some w ∧ _); refine x_itm rfl ?_)
  | ((with_reducible show ∃ w, itemsF _ = some w ∧ _); refine x_itF rfl ?_)
  | ((with_reducible show ∃ i, _ = PV.int i ∧ _); refine x_part rfl ?_)
  | ((with_reducible show ∃ p q, _ = [p, q] ∧ _); refine x_par rfl ?_)
  | ((with_reducible show ∃ n xs j m, _ = PV.ref n ∧ _ = PV.int j ∧ _ ∧ _ ∧ _); refine x_setR rfl rfl rfl rfl ?_))
local macro_rules | `(tactic| walk_at "fsR") => `(tactic| first
  | ((with_reducible show Wp _ _ _); (walk_at "fsW"))
  | ((with_reducible show Exists _); (walk_at "fsE"))
  | ((with_reducible show LkS _ _ _); first | refine lks_v rfl ?_ | refine lks_o rfl ?_)
  | ((with_reducible show _ ≤ sizeLine ∧ _); refine x_low rfl ?_)
  | ((with_reducible show List.length _ = _ ∧ _); refine x_num rfl ?_))
local macro_rules | `(tactic| walk_at "fs1") => `(tactic| first | (with_reducible refine run1 ?_) | (walk_at "fsR"))
local macro_rules | `(tactic| walk_at "fs0") => `(tactic| first | (with_reducible refine stp1 ?_) | (walk_at "fsR"))
local macro_rules | `(tactic| walk_at "fs") => `(tactic| repeat (walk_at "fs1"))
local macro_rules | `(tactic| walk_at "fsp") => `(tactic| (with_reducible refine x_spl ?_ ?_) <;> (intro h; first | (simp only [Bool.not_true, Bool.not_false, reduceCtorEq, decide_eq_true_eq, decide_eq_false_iff_not, Bool.not_eq_true', Bool.not_eq_false', Bool.and_eq_true, Int.not_lt, Int.not_le, Bool.or_eq_true, Bool.and_eq_false_iff, Bool.or_eq_false_iff, Bool.false_and, Bool.true_and, Bool.or_false, Bool.false_or, beq_self_eq_true, Bool.true_or, List.isEmpty_nil, List.isEmpty_cons] at h) | skip))
local macro_rules | `(tactic| walk_at "fss") => `(tactic| repeat' (first | (walk_at "fs1") | (walk_at "fsp")))
theorem ext_ok {xs ys : List PV} (h : xs.length + ys.length ≤ sizeLine) : mExtend xs [.lst ys] = some (.non, xs ++ ys) := by
  show (if xs.length + ys.length ≤ sizeLine then some (PV.non, xs ++ ys) else none) = _
  rw [if_pos h]
theorem eqv_tI (xs ys : List Int) : eqv (tupI xs) (tupI ys) = decide (xs = ys) := by
  rw [← eqvAll_iL]
  simp [eqv, PV.toD, PyData.eqv]
theorem getD_some {α : Type} {xs : List α} {i : Nat} {a d : α} (h : xs[i]? = some a) : xs.getD i d = a := by
  rw [List.getD_eq_getElem?_getD, h]
  rfl
theorem map_get {α : Type} {xs : List α} {i : Nat} {d : α} {f : α → PV} {p : PV} (h : (xs.map f)[i]? = some p) : i < xs.length ∧ p = f (xs.getD i d) := by
  rw [List.getElem?_map] at h
  cases q : xs[i]? with
  | none => rw [q] at h; cases h
  | some a =>
    rw [q] at h
    exact ⟨(List.getElem?_eq_some_iff.mp q).1, by rw [getD_some q]; exact (Option.some.inj h).symm⟩
theorem cell_cl {p x : Int} {f : List Int} {j : Nat} (hf : ∀ a ∈ f, 0 ≤ a ∧ a < p) (hp : 2 ≤ p) : cellF p f x j % p = cl p f x j := by
  unfold cellF cl
  split
  · rw [List.getD_eq_getElem?_getD]
    cases h : f.reverse[j]? with
    | none => simp
    | some a =>
      have := hf a (List.mem_reverse.mp (List.mem_of_getElem? h))
      exact Int.emod_eq_of_lt this.1 this.2
  · rfl
theorem dot_cl {p x : Int} {f : List Int} {k j : Nat} (hf : ∀ a ∈ f, 0 ≤ a ∧ a < p) (hp : 2 ≤ p) (hl : f.length = k) : dotv k (eqR p k x j) (fun t => f.getD t 0) % p = cl p f x j := by
  rw [← cell_cl hf hp]
  have h := dot_eqR (p := p) (k := k) (x := x) (j := j) (v := fun t => f.getD t 0)
  have e : (List.range k).map (fun t => f.getD t 0) = f := by
    have := map_getD_self f 0
    rw [Nat.add_zero, hl] at this
    simpa using this
  rw [e] at h
  exact (Int.emod_emod_of_dvd _ (Int.dvd_refl p)).symm.trans (by rw [Int.emod_emod_of_dvd _ (Int.dvd_refl p)]; exact Int.emod_eq_emod_iff_emod_sub_eq_zero.mpr (Int.emod_eq_zero_of_dvd h))
/-! the law's own cells -/
def hor (p x : Int) (f : List Int) : List Int := (List.range f.length).map fun t => T f x t % p
theorem hor_get {p x : Int} {f : List Int} {j : Nat} (h : j < f.length) : (hor p x f)[j]? = some (T f x j % p) := by
  unfold hor
  rw [List.getElem?_map, List.getElem?_range h]
  rfl
theorem hor_len (p x : Int) (f : List Int) : (hor p x f).length = f.length := by unfold hor; simp
def horL (p x : Int) (f : List Int) : List Int := hor p x f ++ [0]
theorem horL_get {p x : Int} {f : List Int} {j : Nat} (h : j ≤ f.length) : (horL p x f)[j]? = some (T f x j % p) := by
  unfold horL
  by_cases hj : j < f.length
  · rw [List.getElem?_append_left (by rw [hor_len]; exact hj), hor_get hj]
  · have e : j = f.length := by omega
    subst e
    rw [List.getElem?_append_right (by rw [hor_len]; omega), hor_len, Nat.sub_self, T_zero _ _ _ (Nat.le_refl _)]
    simp
/-- the next coefficients, the new first number left out -/
def horN (p x : Int) (f : List Int) (n : Nat) : List Int := (List.range n).map fun t => (x * (T f x t % p) + (if t = 0 then 0 else T f x (t - 1) % p)) % p
theorem horN_next (p x : Int) (f : List Int) (n : Nat) : iL (horN p x f (n + 1)) = iL (horN p x f n) ++ [.int ((x * (T f x n % p) + (if n = 0 then 0 else T f x (n - 1) % p)) % p)] := by
  unfold horN
  rw [List.range_succ, List.map_append, ← iL_app]
  rfl
theorem horN_len (p x : Int) (f : List Int) (n : Nat) : (horN p x f n).length = n := by unfold horN; simp
theorem horN_get {p x : Int} {f : List Int} {n j : Nat} (h : j < n) : (horN p x f n)[j]? = some ((x * (T f x j % p) + (if j = 0 then 0 else T f x (j - 1) % p)) % p) := by
  unfold horN
  rw [List.getElem?_map, List.getElem?_range h]
  rfl
theorem horN_done (p x a : Int) (f : List Int) : (horN p x f (f.length + 1)).set 0 (((x * (T f x 0 % p) + 0) % p + a) % p) = hor p x (a :: f) := by
  apply List.ext_getElem?
  intro j
  by_cases hj : j < f.length + 1
  · rw [hor_get (by simpa using hj), List.getElem?_set]
    by_cases h0 : 0 = j
    · subst h0
      rw [if_pos rfl, if_pos (by rw [horN_len]; omega)]
      congr 1
      show _ = (a + x * T f x 0) % p
      rw [Int.add_comm a]
      refine mod_add ?_ rfl
      rw [Int.add_zero, mod_mod]
      exact mod_mul rfl (mod_mod _ _)
    · rw [if_neg h0, horN_get hj, if_neg (fun e => h0 e.symm)]
      obtain ⟨i, rfl⟩ : ∃ i, j = i + 1 := ⟨j - 1, by omega⟩
      congr 1
      show _ = (T f x i + x * T f x (i + 1)) % p
      rw [Int.add_comm (T f x i)]
      exact mod_add (mod_mul rfl (mod_mod _ _)) (mod_mod _ _)
  · have h1 : ((horN p x f (f.length + 1)).set 0 (((x * (T f x 0 % p) + 0) % p + a) % p)).length ≤ j := by
      rw [List.length_set, horN_len]
      omega
    have h2 : (hor p x (a :: f)).length ≤ j := by
      rw [hor_len, List.length_cons]
      omega
    rw [List.getElem?_eq_none h1, List.getElem?_eq_none h2]
theorem iL_rev (f : List Int) : (iL f).reverse = iL f.reverse := by
  unfold iL
  rw [List.map_reverse]
theorem fn_written_out (S : Stt) (p x : Int) (f : List Int) (hp : 1 < p) (hp2 : p ≤ 65521) (hx : 0 ≤ x) (hx2 : x ≤ p) (hf : f.length < 1000) : Fn (den__law_written_out [.int p, tupI f, .int x] S)
    (fun q s => s = S ∧ ∃ g, q = .lst (iL g) ∧ g.length = f.length ∧ ∀ j < f.length, g[j]? = some (cl p f x j)) noR := by
  unfold den__law_written_out
  with_reducible refine fn_run ?_ ?_
  exact rfl
  unfold body__law_written_out
  walk_at "fss"
  · rename_i h
    refine ⟨rfl, f.reverse, by rw [iL_rev], by simp, fun j hj => ?_⟩
    unfold cl
    rw [if_pos h, List.getD_eq_getElem?_getD, List.getElem?_eq_getElem (by simpa using hj)]
    rfl
  · rename_i hne
    with_reducible refine wp_for ?_
    walk_at "fss"
    rw [iL_rev]
    refine ⟨fun m e s => s = S ∧ ∃ (x4 x5 : Slot), e = [.val (.int p), .val (tupI f), .val (.int x), .own (iL (hor p x (f.drop (f.length - m)))), x4, x5, .none], ⟨rfl, _, _, by rw [Nat.sub_zero, List.drop_length]; rfl⟩, fun m t e s hi ⟨e1, x4, x5, e2⟩ => ?_, fun e s ⟨e1, x4, x5, e2⟩ => ?_⟩
    · obtain ⟨a, ha, rfl⟩ := iL_get hi
      have hm : m < f.length := by
        have := (List.getElem?_eq_some_iff.mp ha).1
        simpa using this
      rw [List.getElem?_reverse (by simpa using hm)] at ha
      have hd : f.drop (f.length - (m + 1)) = a :: f.drop (f.length - m) := by
        have h1 : f.length - (m + 1) < f.length := by omega
        rw [List.drop_eq_getElem_cons h1]
        have e3 : f.length - (m + 1) + 1 = f.length - m := by omega
        have e4 : f.length - 1 - m = f.length - (m + 1) := by omega
        rw [e4, List.getElem?_eq_getElem h1] at ha
        rw [e3, Option.some.inj ha]
      generalize hgl : f.drop (f.length - m) = g at hd e2
      have hg : g.length = m := by rw [← hgl, List.length_drop]; omega
      have hsm : (hor p x g).length + 1 ≤ sizeLine := by rw [hor_len]; exact small_line (by omega)
      have hLl : (iL (horL p x g)).length = g.length + 1 := by rw [ints_len]; unfold horL; rw [List.length_append, hor_len]; rfl
      subst e1 e2
      walk_at "fss"
      refine x_addL (by rw [ints_len]; exact hsm) ?_
      rw [show iL (hor p x g) ++ [PV.int 0] = iL (horL p x g) from by unfold horL; rw [← iL_app]; rfl]
      walk_at "fss"
      with_reducible refine wp_comp ?_
      walk_at "fss"
      rw [hLl]
      refine x_rng1 (by omega) (by omega) ?_
      rw [Int.toNat_natCast]
      refine ⟨fun n acc e s' => s' = s ∧ acc = iL (horN p x g n) ∧ e = [.val (.int p), .val (tupI f), .val (.int x), .val (.lst (iL (hor p x g))), .val (.int a), .val (.lst (iL (horL p x g))), .none], ⟨rfl, rfl, rfl⟩, fun n t acc e s' hi ⟨e1, h1, e2⟩ => ?_, fun acc e s' ⟨e1, h1, e2⟩ => ?_⟩
      · obtain ⟨hj, rfl⟩ := rng_get _ _ _ _ hi
        subst e1 e2 h1
        have hsn : (iL (horN p x g n)).length < sizeLine := by rw [ints_len, horN_len]; exact small_line (by omega)
        walk_at "fss"
        refine x_ix (ints_at (horL_get (by omega))) ?_
        walk_at "fss"
        · have e3 : (n : Int) - 1 = ((n - 1 : Nat) : Int) := by omega
          rw [e3]
          refine x_ix (ints_at (horL_get (by omega))) ?_
          walk_at "fss"
          refine ⟨hsn, rfl, ?_, rfl⟩
          rw [horN_next, if_neg (by omega)]
        · have e3 : n = 0 := by omega
          refine ⟨hsn, rfl, ?_, rfl⟩
          rw [horN_next, if_pos e3]
      · subst e1 e2 h1
        rw [List.length_map, List.length_range]
        have hNl : (iL (horN p x g (g.length + 1))).length = g.length + 1 := by rw [ints_len, horN_len]
        walk_at "fss"
        refine ⟨_, 0, _, rfl, rfl, (ints_at (i := 0) (horN_get (Nat.succ_pos _))), ?_⟩
        walk_at "fss"
        refine x_setO rfl rfl (ixN_zero (by omega)) ?_
        walk_at "fss"
        refine ⟨rfl, .val (.int a), .val (.lst (iL (horL p x g))), ?_⟩
        rw [hd, ← horN_done, ← iL_set]
        rfl
    · subst e1 e2
      rw [ints_len, List.length_reverse, Nat.sub_self, List.drop_zero]
      walk_at "fss"
      refine ⟨rfl, _, rfl, hor_len .., fun j hj => ?_⟩
      rw [hor_get hj]
      unfold cl
      rw [if_neg hne]
/-! all batches; beginnings -/
theorem flat_take {α β : Type} {L : List α} {f : α → List β} {i : Nat} {a : α} (h : L[i]? = some a) : ((L.take (i + 1)).map f).flatten = ((L.take i).map f).flatten ++ f a := by
  rw [take_next h, List.map_append, List.flatten_append]
  simp
theorem fn_law_listed (S : Stt) (p k : Nat) (hp : p < 1000) (hk : p ^ k < 10000) (hk2 : k < 1000) (hp1 : 1 ≤ p) : Fn (den__law_listed [.int p, .int k] S) (fun q s => s = S ∧ q = .lst ((allB p k).map tupI)) noR := by
  unfold den__law_listed
  with_reducible refine fn_run ?_ ?_
  exact rfl
  unfold body__law_listed
  walk_at "fss"
  with_reducible refine wp_for ?_
  walk_at "fss"
  refine x_rng1 (by omega) (by omega) ?_
  rw [Int.toNat_natCast]
  refine ⟨fun m e s => s = S ∧ ∃ x3 x4 x5, e = [.val (.int p), .val (.int k), .val (.lst ((allB p m).map tupI)), x3, x4, x5, .none], ⟨rfl, _, _, _, rfl⟩, fun m q e s hi ⟨e1, x3, x4, x5, e2⟩ => ?_, fun e s ⟨e1, x3, x4, x5, e2⟩ => ?_⟩
  · obtain ⟨hm, rfl⟩ := rng_get _ _ _ _ hi
    have hle : p ^ (m + 1) ≤ p ^ k := Nat.pow_le_pow_right hp1 (by omega)
    have hal := allB_len p m
    rw [Nat.pow_succ] at hle
    have hnx : allB p (m + 1) = ((allB p m).map fun b => (List.range p).map fun (n : Nat) => b ++ [(n : Int)]).flatten := rfl
    have hbl : ∀ b ∈ allB p m, b.length = m := fun b hb => (allB_mem.mp hb).1
    generalize allB p m = A at *
    subst e1 e2
    walk_at "fss"
    with_reducible refine wp_for ?_
    walk_at "fss"
    refine ⟨fun i e s' => s' = s ∧ ∃ x5, e = [.val (.int p), .val (.int k), .val (.lst (A.map tupI)), .val (.int m), .own ((((A.take i).map fun b => (List.range p).map fun (n : Nat) => b ++ [(n : Int)]).flatten).map tupI), x5, .none], ⟨rfl, _, rfl⟩, fun i q e s' hi ⟨e1, x5, e2⟩ => ?_, fun e s' ⟨e1, x5, e2⟩ => ?_⟩
    · obtain ⟨hi2, rfl⟩ := map_get (d := []) hi
      have hb : A[i]? = some (A.getD i []) := by rw [List.getD_eq_getElem?_getD, List.getElem?_eq_getElem hi2]; rfl
      have hbl2 := hbl _ (List.mem_of_getElem? hb)
      have hft := flat_take (f := fun b => (List.range p).map fun (n : Nat) => b ++ [(n : Int)]) hb
      have hln : (((A.take i).map fun b => (List.range p).map fun (n : Nat) => b ++ [(n : Int)]).flatten).length = i * p := by
        rw [List.length_flatten, List.map_map]
        have : ∀ l : List (List Int), (l.map (List.length ∘ fun b => (List.range p).map fun (n : Nat) => b ++ [(n : Int)])).sum = l.length * p := fun l => by
          induction l with
          | nil => simp
          | cons a l ih => rw [List.map_cons, List.sum_cons, ih, List.length_cons, Nat.succ_mul]; simp; omega
        rw [this, List.length_take, Nat.min_eq_left (by omega)]
      have hip : i * p ≤ A.length * p := Nat.mul_le_mul_right _ (by omega)
      rw [hal] at hip
      generalize A.getD i [] = b at hb hft hbl2
      subst e1 e2
      walk_at "fss"
      with_reducible refine wp_comp ?_
      walk_at "fss"
      refine x_rng1 (by omega) (by omega) ?_
      rw [Int.toNat_natCast]
      refine ⟨fun j acc e s => s = s' ∧ acc = ((List.range j).map fun (n : Nat) => tupI (b ++ [(n : Int)])) ∧ e = [.val (.int p), .val (.int k), .val (.lst (A.map tupI)), .val (.int m), .own ((((A.take i).map fun b => (List.range p).map fun (n : Nat) => b ++ [(n : Int)]).flatten).map tupI), .val (tupI b), .none], ⟨rfl, rfl, rfl⟩, fun j q acc e s hi ⟨e1, h1, e2⟩ => ?_, fun acc e s ⟨e1, h1, e2⟩ => ?_⟩
      · obtain ⟨hj, rfl⟩ := rng_get _ _ _ _ hi
        subst e1 e2 h1
        walk_at "fss"
        refine x_addT (small2 (by rw [ints_len]; show _ + 1 < _; omega)) ?_
        walk_at "fss"
        refine ⟨by rw [List.length_map, List.length_range]; exact small_line (by omega), rfl, ?_, rfl⟩
        rw [List.range_succ, List.map_append]
        show _ = _ ++ [tupI (b ++ [(j : Int)])]
        rw [show tupI (b ++ [(j : Int)]) = .tup (iL b ++ [.int j]) from by rw [tupI, ← iL_app]; rfl]
      · subst e1 e2 h1
        rw [List.length_map, List.length_range]
        walk_at "fss"
        refine x_mfO rfl (ext_ok (small2 (by rw [List.length_map, List.length_map, List.length_range, hln]; omega))) ?_
        walk_at "fss"
        refine ⟨rfl, .val (tupI b), ?_⟩
        rw [hft, List.map_append, List.map_map]
        rfl
    · subst e1 e2
      rw [List.length_map, List.take_of_length_le (Nat.le_refl _), ← hnx]
      walk_at "fss"
      exact ⟨rfl, _, _, _, rfl⟩
  · subst e1 e2
    rw [List.length_map, List.length_range]
    walk_at "fss"
    exact ⟨rfl, rfl⟩
/-- the first cells -/
def bgR (p : Int) (g : List Int) (x : Int) (n : Nat) : List Int := (List.range (min n g.length)).map fun j => cl p g x j
def bgRs (p : Int) (g : List Int) (P : List (Int × Nat)) : List (List Int) := P.map fun q => bgR p g q.1 q.2
theorem bgR_eq {p x : Int} {g h : List Int} {n : Nat} (hl : h.length = g.length) (hc : ∀ j < g.length, h[j]? = some (cl p g x j)) : h.take n = bgR p g x n := by
  unfold bgR
  refine List.ext_getElem? fun j => ?_
  rw [List.getElem?_take, List.getElem?_map]
  by_cases hj : j < min n g.length
  · rw [if_pos (by omega), hc j (by omega), List.getElem?_range hj]
    rfl
  · rw [List.getElem?_eq_none (l := List.range _) (by simp; omega)]
    by_cases h2 : j < n
    · rw [if_pos h2, List.getElem?_eq_none (by omega)]
      rfl
    · rw [if_neg h2]
      rfl
theorem fn_law_begun (S : Stt) (p k : Int) (xs g : List Int) (ns : List Nat) (hg : Gnd p k xs) (hl : ns.length = xs.length) (hgl : g.length < 1000) (hn : ∀ n ∈ ns, n < 1000) : Fn (den__law_begun [gv p k xs, tupI g, tupI (nI ns)] S) (fun q s => s = S ∧ q = .tup ((bgRs p g (xs.zip ns)).map tupI)) noR := by
  have hp1 := hg.pr.1
  have hp2 := hg.pr.2.1
  have hn2 := hg.n2
  have h1 := ints_len (nI ns)
  rw [nI_len] at h1
  have hx := ints_len xs
  unfold den__law_begun
  with_reducible refine fn_run ?_ ?_
  exact rfl
  unfold body__law_begun
  walk_at "fss"
  with_reducible refine wp_for ?_
  walk_at "fss"
  refine x_zipM rfl rfl ?_
  refine ⟨fun i e s' => s' = S ∧ ∃ x4 x5, e = [.val (gv p k xs), .val (tupI g), .val (tupI (nI ns)), .own ((bgRs p g ((xs.zip ns).take i)).map tupI), x4, x5], ⟨rfl, _, _, rfl⟩, fun i t e s' hi ⟨e1, x4, x5, e2⟩ => ?_, fun e s' ⟨e1, x4, x5, e2⟩ => ?_⟩
  · rw [List.getElem?_map] at hi
    cases hc : ((iL xs).zip (iL (nI ns)))[i]? with
    | none => rw [hc] at hi; cases hi
    | some c =>
    rw [hc] at hi
    have et : t = .tuz [c.1, c.2] := (Option.some.inj hi).symm
    obtain ⟨c1, c2⟩ := List.getElem?_zip_eq_some.mp hc
    obtain ⟨a, b⟩ := c
    obtain ⟨x, gx, e3⟩ := iL_get c1
    obtain ⟨m, gm, e4⟩ := iL_get c2
    obtain ⟨n, gn, rfl⟩ := nI_at gm
    simp only at et e3 e4
    subst e3 e4 et
    have rx := hg.rg x (List.mem_of_getElem? gx)
    have hnn := hn n (List.mem_of_getElem? gn)
    have hil : i < xs.length := (List.getElem?_eq_some_iff.mp gx).1
    have hbl : ((bgRs p g ((xs.zip ns).take i)).map tupI).length ≤ i := by
      unfold bgRs
      rw [List.length_map, List.length_map, List.length_take]
      exact Nat.min_le_left _ _
    have hnx : bgRs p g ((xs.zip ns).take (i + 1)) = bgRs p g ((xs.zip ns).take i) ++ [bgR p g x n] := by
      unfold bgRs
      rw [take_next (zip_at gx gn), List.map_append]
      rfl
    subst e1 e2
    walk_at "fss"
    refine no_implicit_lambda% (Fn.mono (fn_written_out s' p x g (by omega) hp2 rx.1 rx.2 hgl) (fun q s ⟨e1, f, e2, hfl, hfc⟩ => ?_) fun _ _ _ h => h.elim)
    subst e1 e2
    walk_at "fss"
    rw [cut_to, ints_take, bgR_eq hfl hfc]
    walk_at "fss"
    refine x_mfO rfl (app_ok (small_line (by omega))) ?_
    walk_at "fss"
    refine ⟨rfl, .val (.int x), .val (.int n), ?_⟩
    rw [hnx, List.map_append]
    rfl
  · subst e1 e2
    rw [List.length_map, List.length_zip, h1, hx, List.take_of_length_le (by rw [List.length_zip]; omega)]
    walk_at "fss"
    exact ⟨rfl, rfl⟩
/-! equal beginnings -/
theorem eqvAll_rows : ∀ A B : List (List Int), PyData.eqvAll (toDs (A.map tupI)) (toDs (B.map tupI)) = decide (A = B)
  | [], [] => rfl
  | [], b :: B => by simp [toDs, PyData.eqvAll]
  | a :: A, [] => by simp [toDs, PyData.eqvAll]
  | a :: A, b :: B => by
    have ih := eqvAll_rows A B
    show (PyData.eqv (tupI a).toD (tupI b).toD && PyData.eqvAll (toDs (A.map tupI)) (toDs (B.map tupI))) = _
    rw [ih, show PyData.eqv (tupI a).toD (tupI b).toD = decide (a = b) from eqv_tI a b]
    simp
theorem eqv_rows (A B : List (List Int)) : eqv (.tup (A.map tupI)) (.tup (B.map tupI)) = decide (A = B) := by
  rw [← eqvAll_rows]
  simp [eqv, PV.toD, PyData.eqv]
theorem okd_rows (k : Nat) (A : List (List Int)) : okd (k + 2) (.tup (A.map tupI)) = true := by
  show (A.map tupI).all (okd (k + 1)) = true
  exact List.all_eq_true.mpr fun p hp => by
    obtain ⟨x, _, rfl⟩ := List.mem_map.mp hp
    exact okd_intsT k x
theorem x_eqRows {s : Stt} {A B : List (List Int)} {Q : PV → Prop} (h : Q (.bl (decide (A = B)))) : ∃ w, pEq s (.tup (A.map tupI)) (.tup (B.map tupI)) = some w ∧ Q w := ⟨_, pEq_v (okd_rows 58 A) (okd_rows 58 B) rfl rfl (eqv_rows A B), h⟩
theorem begun_iff {p k : Nat} {P : List (Int × Nat)} {f g : List Int} (hp : 2 ≤ p) (hf : f ∈ allB p k) (hg : g ∈ allB p k) (hs : (P.map (·.2)).sum ≤ k) : bgRs p g P = bgRs p f P ↔ Ker p k (bgn p k P) fun t => g.getD t 0 - f.getD t 0 := by
  obtain ⟨lf, rf⟩ := allB_mem.mp hf
  obtain ⟨lg, rg⟩ := allB_mem.mp hg
  have hdot : ∀ x j, dotv k (eqR p k x j) (fun t => g.getD t 0 - f.getD t 0) = dotv k (eqR p k x j) (fun t => g.getD t 0) - dotv k (eqR p k x j) (fun t => f.getD t 0) := fun x j => by
    have := sum_lin (-1) (fun t => (eqR p k x j).getD t 0 * f.getD t 0) (fun t => (eqR p k x j).getD t 0 * g.getD t 0) k
    have e1 : dotv k (eqR p k x j) (fun t => g.getD t 0 - f.getD t 0) = ((List.range k).map fun t => -1 * ((eqR p k x j).getD t 0 * f.getD t 0) + (eqR p k x j).getD t 0 * g.getD t 0).sum := sum_same fun t => by grind
    rw [e1, this]
    show -1 * dotv k (eqR p k x j) (fun t => f.getD t 0) + dotv k (eqR p k x j) (fun t => g.getD t 0) = _
    omega
  have hcl : ∀ x j, cl p g x j = cl p f x j ↔ (p : Int) ∣ dotv k (eqR p k x j) fun t => g.getD t 0 - f.getD t 0 := fun x j => by
    rw [hdot, ← dot_cl (k := k) rg (by omega) lg, ← dot_cl (k := k) rf (by omega) lf]
    exact Int.emod_eq_emod_iff_emod_sub_eq_zero.trans ⟨Int.dvd_of_emod_eq_zero, Int.emod_eq_zero_of_dvd⟩
  have hle : ∀ q ∈ P, q.2 ≤ k := fun q hq => by
    have : ∀ (l : List (Int × Nat)), q ∈ l → q.2 ≤ (l.map (·.2)).sum := fun l => by
      induction l with
      | nil => intro h; cases h
      | cons a l ih =>
        intro h
        rw [List.map_cons, List.sum_cons]
        rcases List.mem_cons.mp h with e | h
        · rw [e]; omega
        · have := ih h; omega
    have := this P hq
    omega
  constructor
  · intro h r hr
    obtain ⟨q, hq, j, hj, rfl⟩ := bgn_mem hr
    have h1 := List.map_inj_left.mp h q hq
    unfold bgR at h1
    have := hle q hq
    rw [lf, lg, Nat.min_eq_left this] at h1
    exact (hcl q.1 j).mp (List.map_inj_left.mp h1 j (List.mem_range.mpr hj))
  · intro h
    refine List.map_inj_left.mpr fun q hq => ?_
    unfold bgR
    have := hle q hq
    rw [lf, lg, Nat.min_eq_left this]
    refine List.map_inj_left.mpr fun j hj => (hcl q.1 j).mpr (h _ ?_)
    unfold bgn
    exact List.mem_flatten.mpr ⟨_, List.mem_map.mpr ⟨q, hq, rfl⟩, List.mem_map.mpr ⟨j, hj, rfl⟩⟩
end
end I
end FS
set_option Elab.async false
set_option linter.all false
set_option pp.maxSteps 700
set_option maxRecDepth 100000
set_option maxHeartbeats 8000000
namespace FS
open PySem L2
namespace I
section
local macro_rules | `(tactic| walk_at "okm") => `(tactic| first | (exact okMul_l (by omega)) | (exact okMul_r (by omega)) | decide)
local macro_rules | `(tactic| walk_at "fsW") => `(tactic| first
  | (with_reducible refine wp_useL ?_)
  | (with_reducible refine wp_lenL ?_)
  | (with_reducible refine wp_ixL ?_)
  | (with_reducible refine wp_mthL ?_)
  | ((with_reducible refine wp_gtupC ?_ ?_); exact rfl)
  | ((with_reducible refine wp_gtupZ ?_ ?_); exact rfl))
local macro_rules | `(tactic| walk_at "fsE") => `(tactic| first
  | ((with_reducible show ∃ ys, _ = some (Slot.own ys) ∧ _); refine x_own1 rfl ?_)
  | ((with_reducible refine x_mul ?_ ?_); (walk_at "okm"))
  | ((with_reducible refine x_div ?_ ?_ ?_); omega; omega)
  | ((with_reducible refine x_mod ?_ ?_); omega)
  | ((with_reducible refine x_pow ?_ ?_); decide)
  | ((with_reducible show ∃ k, _ = some (PV.bl k) ∧ _); refine x_chain rfl ?_)
  | ((with_reducible show ∃ n ys, _ = PV.ref n ∧ _ = some (SO.lst ys) ∧ _); refine x_mR rfl rfl ?_)
  | ((with_reducible show ∃ w, pIx _ _ _ = some w ∧ _); refine x_ix rfl ?_)
  | ((with_reducible show ∃ w, fLen _ _ = some w ∧ _); refine x_len rfl ?_)
  | ((with_reducible show ∃ w, fInt _ _ = some w ∧ _); refine x_int rfl ?_)
  | ((with_reducible refine x_isi (w := .bl true) ?_ ?_); exact rfl)
  | ((with_reducible refine x_isi (w := .bl false) ?_ ?_); exact rfl)
  | ((with_reducible show ∃ w, fTuple _ _ = some w ∧ _); refine x_tupf rfl ?_)
  | ((with_reducible show ∃ w, fMin _ _ = some w ∧ _); refine x_minf rfl ?_)
  | ((with_reducible show ∃ w, fMax _ _ = some w ∧ _); refine x_maxf rfl ?_)
  | ((with_reducible show ∃ w, pCut _ _ _ _ = some w ∧ _); refine x_pcut rfl ?_)
  | ((with_reducible show ∃ w, itemsOf _ _ = some w ∧ _); refine x_itm rfl ?_)
  | ((with_reducible show ∃ w, itemsF _ = some w ∧ _); refine x_itF rfl ?_)
  | ((with_reducible show ∃ i, _ = PV.int i ∧ _); refine x_part rfl ?_)
  | ((with_reducible show ∃ p q, _ = [p, q] ∧ _); refine x_par rfl ?_)
  | ((with_reducible show ∃ n xs j m, _ = PV.ref n ∧ _ = PV.int j ∧ _ ∧ _ ∧ _); refine x_setR rfl rfl rfl rfl ?_))
local macro_rules | `(tactic| walk_at "fsR") => `(tactic| first
  | ((with_reducible show Wp _ _ _); (walk_at "fsW"))
  | ((with_reducible show Exists _); (walk_at "fsE"))
  | ((with_reducible show LkS _ _ _); first | refine lks_v rfl ?_ | refine lks_o rfl ?_)
  | ((with_reducible show _ ≤ sizeLine ∧ _); refine x_low rfl ?_)
  | ((with_reducible show List.length _ = _ ∧ _); refine x_num rfl ?_))
local macro_rules | `(tactic| walk_at "fs1") => `(tactic| first | (with_reducible refine run1 ?_) | (walk_at "fsR"))
local macro_rules | `(tactic| walk_at "fs0") => `(tactic| first | (with_reducible refine stp1 ?_) | (walk_at "fsR"))
local macro_rules | `(tactic| walk_at "fs") => `(tactic| repeat (walk_at "fs1"))
local macro_rules | `(tactic| walk_at "fsp") => `(tactic| (with_reducible refine x_spl ?_ ?_) <;> (intro h; first | (simp only [Bool.not_true, Bool.not_false, reduceCtorEq, decide_eq_true_eq, decide_eq_false_iff_not, Bool.not_eq_true', Bool.not_eq_false', Bool.and_eq_true, Int.not_lt, Int.not_le, Bool.or_eq_true, Bool.and_eq_false_iff, Bool.or_eq_false_iff, Bool.false_and, Bool.true_and, Bool.or_false, Bool.false_or, beq_self_eq_true, Bool.true_or, List.isEmpty_nil, List.isEmpty_cons] at h) | skip))
local macro_rules | `(tactic| walk_at "fss") => `(tactic| repeat' (first | (walk_at "fs1") | (walk_at "fsp")))
local macro_rules | `(tactic| walk_at "fd1") => `(tactic| first
  | ((with_reducible refine go_draw ?_ ?_ ?_ ?_); assumption; (first | omega | decide); (first | omega | decide); intro s' v hp hv0 hv1)
  | (walk_at "fs1") | (walk_at "fsp"))
local macro_rules | `(tactic| walk_at "fdi1") => `(tactic| first
  | ((with_reducible refine go_draw ?_ ?_ ?_ ?_); assumption; (first | omega | decide); (first | omega | decide); intro s' v hp hv0 hv1)
  | (walk_at "fs0") | (walk_at "fsp"))
local macro_rules | `(tactic| walk_at "fd") => `(tactic| repeat' (walk_at "fd1"))
local macro_rules | `(tactic| walk_at "fdi") => `(tactic| repeat' ((fail_if_success (with_reducible show Wp (dSeq (dIf _ _ _) _ _ _) _ _)); (walk_at "fdi1")))
theorem fn_law_lengths (S : Stt) (hS : Pool S) (p k : Int) (xs : List Int) (most : Nat) (hm : most ≤ 100) (hg : xs.length ≤ 8) : Fn (den__law_lengths [.ref 1, gv p k xs, .int most] S) (fun q s => Pool s ∧ ∃ ns : List Nat, q = tupI (nI ns) ∧ ns.length = xs.length ∧ ∀ n ∈ ns, n ≤ most) noR := by
  have hx := ints_len xs
  unfold den__law_lengths
  with_reducible refine fn_run ?_ ?_
  exact rfl
  unfold body__law_lengths
  walk_at "fd"
  with_reducible refine wp_comp ?_
  walk_at "fd"
  refine ⟨fun i acc e s => Pool s ∧ (∃ ns : List Nat, acc = iL (nI ns) ∧ ns.length = i ∧ ∀ n ∈ ns, n ≤ most) ∧ e = [.val (.ref 1), .val (gv p k xs), .val (.int most), .none], ⟨hS, ⟨[], rfl, rfl, fun n h => by cases h⟩, rfl⟩, fun i t acc e s hi ⟨hP, ⟨ns, h1, h2, h3⟩, e2⟩ => ?_, fun acc e s ⟨hP, ⟨ns, h1, h2, h3⟩, e2⟩ => ?_⟩
  · have hil := (List.getElem?_eq_some_iff.mp hi).1
    have hln : (iL (nI ns)).length = ns.length := by rw [ints_len, nI_len]
    subst e2 h1
    walk_at "fd"
    rename_i s1 v hs1 v0 v1
    obtain ⟨n, rfl⟩ : ∃ n : Nat, v = n := ⟨v.toNat, by omega⟩
    refine ⟨small_line (by omega), hs1, ⟨ns ++ [n], ?_, by simp [h2], fun m hm => ?_⟩, rfl⟩
    · unfold nI
      rw [List.map_append, ← iL_app]
      rfl
    · rcases List.mem_append.mp hm with q | q
      · exact h3 m q
      · have : m = n := by simpa using q
        omega
  · subst e2 h1
    walk_at "fd"
    exact ⟨hP, ns, rfl, by omega, h3⟩
theorem notin_ints (S : Stt) (y : Int) (xs : List Int) : pNotInA S (.int y) (tupI xs) = some (.bl (!decide (y ∈ xs))) := by
  show (none : Option PV).or (pNotInT S (.int y) (tupI xs)) = _
  rw [Option.none_or]
  show (if (okd 60 (.int y) && okd 60 (tupI xs)) = true then some (PV.bl (!(iL xs).any fun z => eqv z (.int y))) else none) = _
  rw [okd_intsT, any_ints]
  rfl
def lI (x : List Int) : PV := .lst (iL x)
theorem eqv_lI (xs ys : List Int) : eqv (.lst (iL xs)) (.lst (iL ys)) = decide (xs = ys) := by
  rw [← eqvAll_iL]
  simp [eqv, PV.toD, PyData.eqv]
theorem okd_lI (k : Nat) (x : List Int) : okd (k + 1) (lI x) = true := by
  show (iL x).all (okd k) = true
  exact List.all_eq_true.mpr fun p hp => by
    obtain ⟨y, _, rfl⟩ := List.mem_map.mp hp
    cases k <;> rfl
theorem srtI_ris {l : List Int} (h : l.Pairwise (· < ·)) : srtI l = l := ris_uniq (srtI_all l).1 h fun k => (srtI_all l).2 k
theorem knL_ris (p : Int) (P : List (Int × Nat)) (k : Nat) : (nI (knL p P k)).Pairwise (· < ·) := by
  unfold nI knL
  refine List.pairwise_map.mpr (List.Pairwise.imp (fun {a b} h => ?_) (List.Pairwise.filter _ List.pairwise_lt_range))
  omega
theorem mem_knL {p : Int} {P : List (Int × Nat)} {k t : Nat} (ht : t < k) : ((t : Int) ∈ nI (knL p P k)) ↔ knB p P k t = true := by
  unfold nI knL
  rw [List.mem_map]
  constructor
  · rintro ⟨a, ha, e⟩
    have : a = t := by omega
    subst this
    exact (List.mem_filter.mp ha).2
  · exact fun h => ⟨t, List.mem_filter.mpr ⟨List.mem_range.mpr ht, h⟩, rfl⟩
theorem count_filter (t : Nat) (r : Int) : ∀ L : List (List Int), (L.map fun g => g.getD t 0).count r = (L.filter fun g => decide (g.getD t 0 = r)).length
  | [] => rfl
  | g :: L => by
    rw [List.map_cons, List.count_cons, count_filter t r L, List.filter_cons]
    by_cases h : g.getD t 0 = r
    · rw [if_pos (by simpa using h), if_pos (by simpa using h), List.length_cons]
    · rw [if_neg (by simpa using h), if_neg (by simpa using h), Nat.add_zero]
local macro_rules | `(tactic| walk_at "fde") => `(tactic| repeat' ((fail_if_success (with_reducible show Wp (dIfE _ _ _ _ _) _ _)); (fail_if_success (with_reducible show Wp (dSeq (dIf _ _ _) _ _ _) _ _)); (walk_at "fdi1")))
theorem law_true (ns : List Int) (hns : ns.length ≤ 63) : ∃ S, den_law [.scr ns] [] = .ok (.bl true) S := by
  suffices h : Fn (den_law [.scr ns] []) (fun q _ => q = .bl true) noR by
    obtain ⟨p, s, e, h⟩ := h.ok
    exact ⟨s, by rw [e, h]⟩
  unfold den_law
  with_reducible refine fn_run ?_ ?_
  exact rfl
  unfold body_law
  walk_at "fde"
  refine no_implicit_lambda% (Fn.mono (fn_pool ns) (fun q S ⟨e1, hS⟩ => ?_) fun _ _ _ h => h.elim)
  subst e1
  walk_at "fde"
  rename_i s1 v1 hP1 v10 v11
  obtain ⟨p, hp, hpp⟩ : ∃ p : Nat, 2 + v1 = p ∧ (p = 2 ∨ p = 3) := ⟨(2 + v1).toNat, by omega, by omega⟩
  rw [hp]
  have hpr : prm (p : Int) := by
    rcases hpp with rfl | rfl
    · exact prm_of (by decide) (by decide +kernel)
    · exact prm_of (by decide) (by decide +kernel)
  walk_at "fde"
  rw [show (p : Int) + 1 = ((p + 1 : Nat) : Int) by omega]
  refine no_implicit_lambda% (Fn.mono (fn_turned s1 hP1 (p + 1) (by omega)) (fun q s ⟨hP, l, e1, hll, hln, hlr⟩ => ?_) fun _ _ _ h => h.elim)
  subst e1
  walk_at "fde"
  rename_i s2 v2 hP2 v20 v21
  have hv2 : v2 < 4 ∧ v2 < ((p + 1 : Nat) : Int) := by split at v21 <;> omega
  obtain ⟨c, rfl⟩ : ∃ n : Nat, v2 = n := ⟨v2.toNat, by omega⟩
  rw [show (1 : Int) + (c : Int) = ((1 + c : Nat) : Int) by omega, cut_to, ints_take]
  generalize hxs : l.take (1 + c) = xs
  have hxl : xs.length = 1 + c := by rw [← hxs, List.length_take]; omega
  have hxn : xs.Nodup := by rw [← hxs]; exact hln.sublist (List.take_sublist _ _)
  have hxr : ∀ x ∈ xs, 0 ≤ x ∧ x ≤ (p : Int) := fun x hx => by
    rw [← hxs] at hx
    have := hlr x (List.mem_of_mem_take hx)
    omega
  walk_at "fde"
  refine no_implicit_lambda% (Wp.mono' (fun q e s => e = [.val (.scr ns), .val (.ref 1), .val (.int p), .val (.lst (iL xs)), .none, .none, .none, .none, .none, .none, .none, .none, .none, .none, .none, .none, .none] ∧ s = s2 ∧ ∃ m : Nat, q = .int m ∧ 1 ≤ m ∧ m ≤ 6 ∧ p ^ m ≤ 81) (fun _ _ _ _ => False) ?_ (fun q e s ⟨e1, e2, m, e3, hm1, hm2, hm3⟩ => ?_) (fun _ _ _ _ h => False.elim h))
  · walk_at "fd"
    · rename_i h
      have : p = 2 := by omega
      subst this
      exact ⟨rfl, rfl, 6, rfl, by decide, by decide, by decide⟩
    · rename_i h
      have : p = 3 := by omega
      subst this
      exact ⟨rfl, rfl, 4, rfl, by decide, by decide, by decide⟩
  subst e1 e2 e3
  walk_at "fde"
  rename_i s3 v3 hP3 v30 v31 s4 v4 hP4 v40 v41
  obtain ⟨k, hk⟩ : ∃ k : Nat, 1 + v3 = k := ⟨(1 + v3).toNat, by omega⟩
  rw [hk]
  have hk1 : 1 ≤ k := by omega
  have hkm : k ≤ m := by omega
  have hpk : p ^ k ≤ 81 := Nat.le_trans (Nat.pow_le_pow_right (by omega) hkm) hm3
  have hg : Gnd p k xs := ⟨hpr, by omega, by omega, by omega, by omega, hxr, hxn⟩
  obtain ⟨m4, hm4⟩ : ∃ m : Nat, 1 + v4 = m := ⟨(1 + v4).toNat, by omega⟩
  rw [hm4]
  refine no_implicit_lambda% (Fn.mono (fn_law_lengths s4 hP4 p k xs m4 (by omega) (by omega)) (fun q s ⟨hP, ms, e1, l1, l2⟩ => ?_) fun _ _ _ h => h.elim)
  subst e1
  walk_at "fde"
  with_reducible refine wp_seq ?_
  refine no_implicit_lambda% (Wp.mono' (fun f e s => f = .next ∧ Pool s ∧ ∃ ms : List Nat, ms.length = xs.length ∧ ms.sum ≤ k ∧ e = [.val (.scr ns), .val (.ref 1), .val (.int p), .val (.lst (iL xs)), .val (gv p k xs), .val (tupI (nI ms)), .none, .none, .none, .none, .none, .none, .none, .none, .none, .none, .none]) (fun _ _ _ _ => False) ?_ (fun f e s ⟨ef, hP, ms, l1, l2, e1⟩ => ?_) (fun _ _ _ _ h => False.elim h))
  · have hml : (iL (nI ms)).length = xs.length := by rw [ints_len, nI_len, l1]
    walk_at "fd"
    refine x_sumT (intsOf_map (nI ms)) ?_
    rw [nI_sum]
    walk_at "fd"
    · rename_i h s5 v5 hP5 v50 v51
      obtain ⟨n, rfl⟩ : ∃ n : Nat, v5 = n := ⟨v5.toNat, by omega⟩
      rw [hml]
      rw [show (xs.length : Int) - 1 = ((xs.length - 1 : Nat) : Int) by omega]
      refine x_mulT (by simp) ⟨by omega, by omega, by rw [Int.toNat_natCast, List.length_singleton, Nat.one_mul]; exact Nat.le_of_lt (small_line (by omega)), Nat.le_of_lt (small_line (by simp))⟩ ?_
      rw [Int.toNat_natCast, iL_rep]
      walk_at "fd"
      refine x_addT (small2 (by rw [ints_len, List.length_replicate]; show 1 + _ < _; omega)) ?_
      refine ⟨rfl, hP5, n :: List.replicate (xs.length - 1) 0, by simp; omega, by rw [List.sum_cons, List.sum_replicate_nat]; omega, ?_⟩
      have e3 : tupI (nI (n :: List.replicate (xs.length - 1) 0)) = .tup ([.int n] ++ iL (List.replicate (xs.length - 1) 0)) := by
        unfold nI
        rw [List.map_cons, List.map_replicate]
        rfl
      rw [e3]
      rfl
    · rename_i h
      exact ⟨rfl, hP, ms, l1, by omega, rfl⟩
  subst ef e1
  walk_at "fd"
  refine no_implicit_lambda% (Fn.mono (fn_law_batch s hP p k xs hg) (fun q s ⟨hP, f, e1, hf⟩ => ?_) fun _ _ _ h => h.elim)
  subst e1
  have hfm : f ∈ allB p k := allB_mem.mpr ⟨by have := hf.1; omega, hf.2⟩
  have hms : ∀ n ∈ ms, n < 1000 := fun n hn => by
    obtain ⟨i, hi⟩ := List.getElem?_of_mem hn
    have := sum_at hi
    omega
  walk_at "fd"
  refine no_implicit_lambda% (Fn.mono (fn_law_begun s p k xs f ms hg l1 (by have := hf.1; omega) hms) (fun q s' ⟨e1, e2⟩ => ?_) fun _ _ _ h => h.elim)
  subst e1 e2
  walk_at "fd"
  with_reducible refine wp_comp ?_
  walk_at "fd"
  refine no_implicit_lambda% (Fn.mono (fn_law_listed s' p k (by omega) (by omega) (by omega) (by omega)) (fun q s ⟨e1, e2⟩ => ?_) fun _ _ _ h => h.elim)
  subst e1 e2
  walk_at "fd"
  have hlen := allB_len p k
  have hlall : ∀ g ∈ allB p k, g.length < 1000 := fun g hm => by
    have := (allB_mem.mp hm).1
    omega
  have hsz : ((xs.zip ms).map (·.2)).sum ≤ k := by rw [zip_snd l1]; exact l2
  have hne : xs.zip ms ≠ [] := fun e => by
    have := congrArg List.length e
    rw [List.length_zip, List.length_nil] at this
    omega
  have hAlk : Alk p k (xs.zip ms) f fun g => decide (bgRs p g (xs.zip ms) = bgRs p f (xs.zip ms)) := ⟨hpr, pts_ok hg l1, hne, hsz, hfm, fun g hgm => by
    rw [decide_eq_true_eq]
    exact begun_iff (by omega) hfm hgm hsz⟩
  have hcnt := hAlk.count
  rw [zip_snd l1] at hcnt
  have hmemAL := fun g (h : g ∈ (allB p k).filter fun g => decide (bgRs p g (xs.zip ms) = bgRs p f (xs.zip ms))) => (List.mem_filter.mp h).1
  refine ⟨fun i acc e s' => s' = s ∧ acc = (((allB p k).take i).filter fun g => decide (bgRs p g (xs.zip ms) = bgRs p f (xs.zip ms))).map tupI ∧ e = [.val (.scr ns), .val (.ref 1), .val (.int p), .val (.lst (iL xs)), .val (gv p k xs), .val (tupI (nI ms)), .val (tupI f), .val (.tup ((bgRs p f (xs.zip ms)).map tupI)), .none, .none, .none, .none, .none, .none, .none, .none, .none], ⟨rfl, rfl, rfl⟩, fun i q acc e s' hi ⟨e1, h1, e2⟩ => ?_, fun acc e s' ⟨e1, h1, e2⟩ => ?_⟩
  · obtain ⟨hi2, rfl⟩ := map_get (d := []) hi
    have hb : (allB p k)[i]? = some ((allB p k).getD i []) := by rw [List.getD_eq_getElem?_getD, List.getElem?_eq_getElem hi2]; rfl
    have hgl := hlall _ (List.mem_of_getElem? hb)
    have hnx := take_next hb
    have hfl : (((allB p k).take i).filter fun g => decide (bgRs p g (xs.zip ms) = bgRs p f (xs.zip ms))).length ≤ i := Nat.le_trans (List.length_filter_le _ _) (by rw [List.length_take]; exact Nat.min_le_left _ _)
    generalize (allB p k).getD i [] = g at hb hgl hnx
    subst e1 e2 h1
    walk_at "fd"
    refine no_implicit_lambda% (Fn.mono (fn_law_begun s' p k xs g ms hg l1 hgl hms) (fun q s ⟨e1, e2⟩ => ?_) fun _ _ _ h => h.elim)
    subst e1 e2
    walk_at "fd"
    refine x_eqRows ?_
    walk_at "fd"
    · rename_i h
      refine ⟨by rw [List.length_map]; exact small_line (by omega), rfl, ?_, rfl⟩
      rw [hnx, List.filter_append, List.filter_cons_of_pos (by rw [decide_eq_true_eq]; exact h), List.filter_nil, List.map_append]
      rfl
    · rename_i h
      refine ⟨rfl, ?_, rfl⟩
      rw [hnx, List.filter_append, List.filter_cons_of_neg (by rw [decide_eq_true_eq]; exact h), List.filter_nil, List.append_nil]
  subst e1 e2 h1
  rw [List.length_map, List.take_of_length_le (Nat.le_refl _)]
  have told := fun t (ht : t < k) hk g hg => hAlk.told ht hk (g := g) hg
  have each := fun t (ht : t < k) hk r hr => hAlk.each ht hk (r := r) hr
  rw [zip_snd l1] at each
  generalize hAL : (allB p k).filter (fun g => decide (bgRs p g (xs.zip ms) = bgRs p f (xs.zip ms))) = AL at *
  walk_at "fd"
  with_reducible refine wp_for ?_
  walk_at "fd"
  refine no_implicit_lambda% (Fn.mono (fn_ways_left s' p k xs ms hg l1 fun n hn => by have := hms n hn; omega) (fun q s ⟨e1, e2⟩ => ?_) fun _ _ _ h => h.elim)
  subst e1 e2
  walk_at "fd"
  refine x_rng1 (by omega) (by omega) ?_
  rw [Int.toNat_natCast]
  have hpn : ∀ i, i ≤ k → p ^ i ≤ 81 := fun i hi => Nat.le_trans (Nat.pow_le_pow_right (by omega) hi) hpk
  refine ⟨fun i e s' => s' = s ∧ ∃ x11, e = [.val (.scr ns), .val (.ref 1), .val (.int p), .val (.lst (iL xs)), .val (gv p k xs), .val (tupI (nI ms)), .val (tupI f), .val (.tup ((bgRs p f (xs.zip ms)).map tupI)), .val (.lst (AL.map tupI)), .none, .val (.int (p ^ i : Nat)), x11, .none, .none, .none, .none, .none], ⟨rfl, _, rfl⟩, fun i q e s' hi ⟨e1, x11, e2⟩ => ?_, fun e s' ⟨e1, x11, e2⟩ => ?_⟩
  · obtain ⟨hj, rfl⟩ := rng_get _ _ _ _ hi
    have := hpn i (by omega)
    subst e1 e2
    walk_at "fd"
    refine ⟨rfl, .val (.int i), ?_⟩
    rw [show ((p ^ (i + 1) : Nat) : Int) = ((p ^ i : Nat) : Int) * (p : Int) by rw [Nat.pow_succ, Int.natCast_mul]]
    rfl
  subst e1 e2
  rw [List.length_map, List.length_range]
  have hmany := hpn (k - ms.sum) (by omega)
  generalize hM : p ^ (k - ms.sum) = M at *
  walk_at "fd"
  · rename_i h
    rw [List.length_map] at h
    omega
  refine no_implicit_lambda% (Fn.mono (fn_early s' p k xs ms hg l1 (by omega) fun n hn => by have := hms n hn; omega) (fun q s ⟨e1, e2⟩ => ?_) fun _ _ _ h => h.elim)
  subst e1 e2
  have hmk := fun t (ht : t < k) => mem_knL (p := p) (P := xs.zip ms) ht
  have hris := knL_ris p (xs.zip ms) k
  have hkll : (knL p (xs.zip ms) k).length ≤ k := by
    unfold knL
    exact filter_le _ k
  generalize knL p (xs.zip ms) k = kl at *
  walk_at "fd"
  with_reducible refine wp_for ?_
  walk_at "fd"
  refine x_rng1 (by omega) (by omega) ?_
  rw [Int.toNat_natCast]
  refine ⟨fun i e s' => s' = s ∧ ∃ x13 x14 x15, e = [.val (.scr ns), .val (.ref 1), .val (.int p), .val (.lst (iL xs)), .val (gv p k xs), .val (tupI (nI ms)), .val (tupI f), .val (.tup ((bgRs p f (xs.zip ms)).map tupI)), .val (.lst (AL.map tupI)), .none, .val (.int M), x11, .val (tupI (nI kl)), x13, x14, x15, .none], ⟨rfl, _, _, _, rfl⟩, fun t q e s' hi ⟨e1, x13, x14, x15, e2⟩ => ?_, fun e s' ⟨e1, x13, x14, x15, e2⟩ => ?_⟩
  · obtain ⟨ht, rfl⟩ := rng_get _ _ _ _ hi
    subst e1 e2
    walk_at "fd"
    with_reducible refine wp_comp ?_
    walk_at "fd"
    refine ⟨fun i acc e s => s = s' ∧ acc = iL ((AL.take i).map fun g => g.getD t 0) ∧ e = [.val (.scr ns), .val (.ref 1), .val (.int p), .val (.lst (iL xs)), .val (gv p k xs), .val (tupI (nI ms)), .val (tupI f), .val (.tup ((bgRs p f (xs.zip ms)).map tupI)), .val (.lst (AL.map tupI)), .none, .val (.int M), x11, .val (tupI (nI kl)), .val (.int t), x14, x15, .none], ⟨rfl, rfl, rfl⟩, fun i q acc e s hi ⟨e1, h1, e2⟩ => ?_, fun acc e s ⟨e1, h1, e2⟩ => ?_⟩
    · obtain ⟨hi2, rfl⟩ := map_get (d := []) hi
      have hb : AL[i]? = some (AL.getD i []) := by rw [List.getD_eq_getElem?_getD, List.getElem?_eq_getElem hi2]; rfl
      have hgl := (allB_mem.mp (hmemAL _ (List.mem_of_getElem? hb))).1
      have hnx := take_next hb
      generalize AL.getD i [] = g at hb hgl hnx
      subst e1 e2 h1
      walk_at "fd"
      refine x_ix (at_getD (by omega)) ?_
      walk_at "fd"
      refine ⟨by rw [ints_len, List.length_map, List.length_take]; exact small_line (by omega), rfl, ?_, rfl⟩
      rw [hnx, List.map_append, ← iL_app]
      rfl
    subst e1 e2 h1
    rw [List.length_map, List.take_of_length_le (Nat.le_refl _)]
    walk_at "fd"
    with_reducible refine wp_comp ?_
    walk_at "fd"
    refine x_rng1 (by omega) (by omega) ?_
    rw [Int.toNat_natCast]
    refine ⟨fun i acc e s' => s' = s ∧ acc = iL ((List.range i).map fun (r : Nat) => (((AL.filter fun g => decide (g.getD t 0 = (r : Int))).length : Nat) : Int)) ∧ e = [.val (.scr ns), .val (.ref 1), .val (.int p), .val (.lst (iL xs)), .val (gv p k xs), .val (tupI (nI ms)), .val (tupI f), .val (.tup ((bgRs p f (xs.zip ms)).map tupI)), .val (.lst (AL.map tupI)), .none, .val (.int M), x11, .val (tupI (nI kl)), .val (.int t), .val (.lst (iL (AL.map fun g => g.getD t 0))), x15, .none], ⟨rfl, rfl, rfl⟩, fun i q acc e s' hi ⟨e1, h1, e2⟩ => ?_, fun acc e s' ⟨e1, h1, e2⟩ => ?_⟩
    · obtain ⟨hi2, rfl⟩ := rng_get _ _ _ _ hi
      subst e1 e2 h1
      walk_at "fd"
      refine ⟨_, _, rfl, intsOf_map _, ?_⟩
      walk_at "fd"
      refine ⟨_, rfl, ?_⟩
      walk_at "fd"
      refine ⟨by rw [ints_len, List.length_map, List.length_range]; exact small_line (by omega), rfl, ?_, rfl⟩
      rw [count_filter, List.range_succ, List.map_append, ← iL_app]
      rfl
    subst e1 e2 h1
    rw [List.length_map, List.length_range]
    have hlf : f.length = k := (allB_mem.mp hfm).1
    have hft := getD_rg hfm ht
    obtain ⟨a, ha⟩ : ∃ a : Nat, f.getD t 0 = a := ⟨(f.getD t 0).toNat, by omega⟩
    have hin := hmk t ht
    cases hkn : knB p (xs.zip ms) k t with
    | true =>
      have hin2 : ((t : Int) ∈ nI kl) := hin.mpr hkn
      have hfull : (AL.filter fun g => decide (g.getD t 0 = (a : Int))).length = M := by
        rw [List.filter_eq_self.mpr fun g hgm => decide_eq_true ((told t ht hkn g hgm).trans ha)]
        exact hcnt
      have hcg : ((List.range p).map fun (r : Nat) => (((AL.filter fun g => decide (g.getD t 0 = (r : Int))).length : Nat) : Int))[a]? = some (M : Int) := by
        rw [List.getElem?_map, List.getElem?_range (by omega)]
        exact congrArg (fun n : Nat => some (n : Int)) hfull
      walk_at "fd"
      refine ⟨_, in_ints _ _ _, ?_⟩
      rw [decide_eq_true hin2]
      walk_at "fd"
      refine x_ix (at_getD (by omega)) ?_
      rw [ha]
      walk_at "fd"
      refine x_ix (ints_at hcg) ?_
      walk_at "fd"
      · rename_i h
        exact absurd trivial h
      refine ⟨_, notin_ints _ _ _, ?_⟩
      rw [decide_eq_true hin2]
      walk_at "fd"
      exact ⟨rfl, _, _, _, rfl⟩
    | false =>
      have hin2 : ¬ ((t : Int) ∈ nI kl) := fun h => by
        have := hin.mp h
        rw [hkn] at this
        cases this
      have hce : ((List.range p).map fun (r : Nat) => (((AL.filter fun g => decide (g.getD t 0 = (r : Int))).length : Nat) : Int)) = List.replicate p ((M / p : Nat) : Int) := by
        refine List.eq_replicate_iff.mpr ⟨by simp, fun b hb => ?_⟩
        obtain ⟨r, hr, rfl⟩ := List.mem_map.mp hb
        have := List.mem_range.mp hr
        exact congrArg (fun n : Nat => (n : Int)) (each t ht hkn r (by omega))
      rw [hce]
      walk_at "fd"
      refine ⟨_, in_ints _ _ _, ?_⟩
      rw [decide_eq_false hin2]
      walk_at "fd"
      refine ⟨_, notin_ints _ _ _, ?_⟩
      rw [decide_eq_false hin2]
      walk_at "fd"
      refine x_mulLst (rep_ok _ (by omega)) ?_
      rw [Int.toNat_natCast, iL_rep, show (M : Int) / (p : Int) = ((M / p : Nat) : Int) from (Int.natCast_ediv M p).symm]
      walk_at "fd"
      refine ⟨_, pNe_v (okd_lI 59 _) (okd_lI 59 _) rfl rfl (show eqv (lI _) (lI _) = true from (eqv_lI _ _).trans (decide_eq_true rfl)), ?_⟩
      walk_at "fd"
      exact ⟨rfl, _, _, _, rfl⟩
  · subst e1 e2
    walk_at "fd"
    refine ⟨_, _, rfl, intsOf_map _, by unfold nI; rw [List.length_map]; omega, ?_⟩
    rw [srtI_ris hris]
    refine ⟨_, pEq_v (okd_lI 59 _) (okd_lI 59 _) rfl rfl (show eqv (lI _) (lI _) = true from (eqv_lI _ _).trans (decide_eq_true rfl)), ?_⟩
    rfl
end
end I
end FS
namespace FS
theorem law_true : ∀ ns : List Int, ns.length ≤ 63 → ∃ S, den_law [.scr ns] [] = .ok (.bl true) S := I.law_true
end FS
set_option Elab.async false
set_option linter.all false
set_option maxRecDepth 100000
/-! K53Walk: the walk of law_k53_whole_known_early (printed by our gen.py) -/
namespace FS
open PySem PySem.Spec L2
def topS (i : Nat) : Stmt := PySem.Challenge.pw_firstsafe_k53_whole_known_early.main.body.getD i (.Pass ⟨0, 0, 0, 0⟩)
/-! ### what the names of the module hold -/
structure Tx (K : PySem.W.Frag) (mg : Str → Option Value) : Prop where
  b_bool : mg "bool" = none
  b_int : mg "int" = none
  b_isinstance : mg "isinstance" = none
  b_len : mg "len" = none
  b_list : mg "list" = none
  b_max : mg "max" = none
  b_min : mg "min" = none
  b_range : mg "range" = none
  b_set : mg "set" = none
  b_sorted : mg "sorted" = none
  b_sum : mg "sum" = none
  b_tuple : mg "tuple" = none
  b_zip : mg "zip" = none
  c_MOST_CELLS : ∃ t, mg "MOST_CELLS" = some (.int 1024 t)
  c_MOST_DEGREE : ∃ t, mg "MOST_DEGREE" = some (.int 98 t)
  c_MOST_NUMBERS : ∃ t, mg "MOST_NUMBERS" = some (.int 12 t)
  c_MOST_PRIME : ∃ t, mg "MOST_PRIME" = some (.int 65521 t)
  c_MOST_SHELVES : ∃ t, mg "MOST_SHELVES" = some (.int 8 t)
section
variable {P : Program} {w : World} {K : PySem.W.Frag} {mg : Str → Option Value} {base : Heap} {TT : List (Addr × Str)}
theorem sc__law_pool : FnScope ["_law_script", "_law_first", "_law_size"] ["_law_script"] (defScope (topS 26)) := ⟨rfl, rfl, rfl, by decide +kernel, rfl, by decide +kernel, by decide +kernel⟩
theorem ok__law_pool {f : Addr} {fd : FuncData} (F : Fun K "_law_pool" "_law_pool" (topS 26) f fd) (T : Tx K mg) : FnOk P w K mg base (L2.CX P w) 1 f fd ["_law_script"] (spD K mg 1 den__law_pool) := by
  unfold den__law_pool body__law_pool
  exact def_ok F sc__law_pool fun cdv A outer s H E G hr => mss_cons (ms_set 1 sc__law_pool.nd (me_if (mt_cmp op_pGt (me_blt c_len T.b_len (ma_cons (me_use 0) (ma_nil))) (me_int) (nomark _)) (me_bty c_int T.b_int (ma_cons (me_ix (me_use 0) (me_int)) (ma_nil))) (me_int))) (mss_cons (ms_set 2 sc__law_pool.nd (me_if (mt_cmp op_pGe (me_use 1) (me_int) (nomark _)) (me_op op_pMul (me_int) (me_use 1)) (me_op op_pSub (me_neg (me_int)) (me_op op_pMul (me_int) (me_use 1))))) (mss_one (ms_ret (me_new (mf_disp (ma_cons (me_if (mt_cmp op_pGe (me_use 2) (me_op op_pPow (me_int) (me_int)) (nomark _)) (me_use 2) (me_int)) (ma_cons (me_op op_pAdd (me_op op_pMod (me_bty c_int T.b_int (ma_cons (me_op op_pAdd (me_op op_pMul (me_use 2) (me_int)) (me_int)) (ma_nil))) (me_int)) (me_int)) (ma_cons (me_new (mf_list (me_cut (me_use 0) (mo_some (me_int)) (mo_none)) T.b_list)) (ma_nil)))))))))
theorem sc__law_draw : FnScope ["_law_pool_here", "_law_many", "_law_cell", "_law_size", "_law_found"] ["_law_pool_here", "_law_many"] (defScope (topS 27)) := ⟨rfl, rfl, rfl, by decide +kernel, rfl, by decide +kernel, by decide +kernel⟩
theorem ok__law_draw {f : Addr} {fd : FuncData} (F : Fun K "_law_draw" "_law_draw" (topS 27) f fd) (T : Tx K mg) : FnOk P w K mg base (L2.CX P w) 1 f fd ["_law_pool_here", "_law_many"] (spD K mg 2 den__law_draw) := by
  unfold den__law_draw body__law_draw
  exact def_ok F sc__law_draw fun cdv A outer s H E G hr => mss_cons (ms_if (mt_w (mw_and (mt_cmp (op_pEq hr) (me_ix (me_use 0) (me_int)) (me_int) (nomark _)) (mw_and1 (mt_cmp (op_pNe hr) (me_ix (me_use 0) (me_int)) (me_frz (mf_disp (ma_nil))) (nomark _))))) (mss_cons (ms_set 2 sc__law_draw.nd (me_bty c_int T.b_int (ma_cons (me_mthR (slot := PySem.F.slot_list_pop) m_popAt PySem.F.type_list_pop (me_ix (me_use 0) (me_int)) (ma_cons (me_int) (ma_nil))) (ma_nil)))) (mss_cons (ms_set 3 sc__law_draw.nd (me_if (mt_cmp op_pGe (me_use 2) (me_int) (nomark _)) (me_op op_pMul (me_int) (me_use 2)) (me_op op_pSub (me_neg (me_int)) (me_op op_pMul (me_int) (me_use 2))))) (mss_cons (ms_setR (me_if (mt_cmp op_pGe (me_use 3) (me_op op_pPow (me_int) (me_int)) (nomark _)) (me_use 3) (me_int)) (me_use 0) (me_int)) (mss_one (ms_setR (me_op op_pAdd (me_op op_pMod (me_bty c_int T.b_int (ma_cons (me_op op_pAdd (me_ix (me_use 0) (me_int)) (me_op op_pMul (me_use 3) (me_int))) (ma_nil))) (me_int)) (me_int)) (me_use 0) (me_int)))))) (mss_nil)) (mss_cons (ms_if (mt_cmp op_pGt (me_ix (me_use 0) (me_int)) (me_int) (nomark _)) (mss_cons (ms_set 4 sc__law_draw.nd (me_op op_pMod (me_bty c_int T.b_int (ma_cons (me_ix (me_use 0) (me_int)) (ma_nil))) (me_use 1))) (mss_cons (ms_setR (me_op op_pDiv (me_ix (me_use 0) (me_int)) (me_use 1)) (me_use 0) (me_int)) (mss_one (ms_ret (me_use 4))))) (mss_nil)) (mss_cons (ms_setR (me_op op_pMod (me_bty c_int T.b_int (ma_cons (me_op op_pAdd (me_op op_pMul (me_ix (me_use 0) (me_int)) (me_int)) (me_int)) (ma_nil))) (me_int)) (me_use 0) (me_int)) (mss_one (ms_ret (me_op op_pMod (me_op op_pDiv (me_op op_pMod (me_bty c_int T.b_int (ma_cons (me_op op_pMul (me_ix (me_use 0) (me_int)) (me_ix (me_use 0) (me_int))) (ma_nil))) (me_int)) (me_int)) (me_use 1))))))
theorem sc__law_turned : FnScope ["_law_pool_here", "_law_many", "_law_left", "_law_found", "_law_turn"] ["_law_pool_here", "_law_many"] (defScope (topS 28)) := ⟨rfl, rfl, rfl, by decide +kernel, rfl, by decide +kernel, by decide +kernel⟩
theorem ok__law_turned {f : Addr} {fd : FuncData} (F : Fun K "_law_turned" "_law_turned" (topS 28) f fd) (T : Tx K mg) (D__law_draw : Df P w K mg base 1 "_law_draw" 2 den__law_draw) : FnOk P w K mg base (L2.CX P w) 2 f fd ["_law_pool_here", "_law_many"] (spD K mg 2 den__law_turned) := by
  unfold den__law_turned body__law_turned
  exact def_ok F sc__law_turned fun cdv A outer s H E G hr => mss_cons (ms_ownNil 2 3 sc__law_turned.nd (mf_listRg1 (me_use 1) T.b_list T.b_range)) (mss_cons (ms_for (passes_of rfl) (mi_range1 T.b_range (ma_cons (me_use 1) (ma_nil))) (mg_name 4 sc__law_turned.nd) (mss_one (ms_expr (me_mthO (slot := PySem.F.slot_list_append) 3 m_append PySem.F.type_list_append (ma_cons (me_mthO (slot := PySem.F.slot_list_pop) 2 m_popAt PySem.F.type_list_pop (ma_cons (me_call D__law_draw hr (takes_of (E := E) rfl rfl rfl rfl) (ma_cons (me_use 0) (ma_cons (me_lenO 2 T.b_len) (ma_nil)))) (ma_nil))) (ma_nil)))))) (mss_one (ms_ret (me_use 3))))
theorem sc__law_lengths : FnScope ["_law_pool_here", "_law_ground", "_law_most", "_law_point"] ["_law_pool_here", "_law_ground", "_law_most"] (defScope (topS 30)) := ⟨rfl, rfl, rfl, by decide +kernel, rfl, by decide +kernel, by decide +kernel⟩
theorem ok__law_lengths {f : Addr} {fd : FuncData} (F : Fun K "_law_lengths" "_law_lengths" (topS 30) f fd) (T : Tx K mg) (D__law_draw : Df P w K mg base 1 "_law_draw" 2 den__law_draw) : FnOk P w K mg base (L2.CX P w) 2 f fd ["_law_pool_here", "_law_ground", "_law_most"] (spD K mg 3 den__law_lengths) := by
  unfold den__law_lengths body__law_lengths
  exact def_ok F sc__law_lengths fun cdv A outer s H E G hr => mss_one (ms_ret (me_bty c_tuple T.b_tuple (ma_cons (me_frz (mf_comp (N := ["_law_pool_here", "_law_ground", "_law_most", "_law_point"]) (sc := defScope (topS 30)) [("_law_point", 3)] sc__law_lengths.nd (mi_val (me_ix (me_use 1) (me_int))) (by decide +kernel) (fun _ _ _ _ _ => mgc_name 3 sc__law_lengths.nd) (fun _ _ _ _ _ => mts_nil) (fun _ _ _ _ _ _ => me_call D__law_draw hr takes0 (ma_cons (me_use 0) (ma_cons (me_op op_pAdd (me_use 2) (me_int)) (ma_nil)))))) (ma_nil))))
theorem sc__law_batch : FnScope ["_law_pool_here", "_law_ground", "_law_p", "_law_k", "_law_points", "_law_place", "_law_at"] ["_law_pool_here", "_law_ground"] (defScope (topS 29)) := ⟨rfl, rfl, rfl, by decide +kernel, rfl, by decide +kernel, by decide +kernel⟩
theorem ok__law_batch {f : Addr} {fd : FuncData} (F : Fun K "_law_batch" "_law_batch" (topS 29) f fd) (T : Tx K mg) (D__law_draw : Df P w K mg base 1 "_law_draw" 2 den__law_draw) : FnOk P w K mg base (L2.CX P w) 2 f fd ["_law_pool_here", "_law_ground"] (spD K mg 2 den__law_batch) := by
  unfold den__law_batch body__law_batch
  exact def_ok F sc__law_batch fun cdv A outer s H E G hr => mss_cons (ms_asg (me_use 1) (mg_tup (mgs_cons (mg_name 2 sc__law_batch.nd) (mgs_cons (mg_name 3 sc__law_batch.nd) (mgs_cons (mg_name 4 sc__law_batch.nd) (mgs_nil)))))) (mss_cons (ms_if (mt_cmp op_pGt (me_call D__law_draw hr (takes_of (E := E) rfl rfl rfl rfl) (ma_cons (me_use 0) (ma_cons (me_int) (ma_nil)))) (me_int) (nomark _)) (mss_one (ms_ret (me_bty c_tuple T.b_tuple (ma_cons (me_frz (mf_comp (N := ["_law_pool_here", "_law_ground", "_law_p", "_law_k", "_law_points", "_law_place", "_law_at"]) (sc := defScope (topS 29)) [("_law_place", 5)] sc__law_batch.nd (mi_range1 T.b_range (ma_cons (me_use 3) (ma_nil))) (by decide +kernel) (fun _ _ _ _ _ => mgc_name 5 sc__law_batch.nd) (fun _ _ _ _ _ => mts_nil) (fun _ _ _ _ _ _ => me_call D__law_draw hr takes0 (ma_cons (me_use 0) (ma_cons (me_use 2) (ma_nil)))))) (ma_nil))))) (mss_nil)) (mss_cons (ms_set 5 sc__law_batch.nd (me_call D__law_draw hr (takes_of (E := E) rfl rfl rfl rfl) (ma_cons (me_use 0) (ma_cons (me_use 3) (ma_nil))))) (mss_one (ms_ret (me_bty c_tuple T.b_tuple (ma_cons (me_frz (mf_comp (N := ["_law_pool_here", "_law_ground", "_law_p", "_law_k", "_law_points", "_law_place", "_law_at"]) (sc := defScope (topS 29)) [("_law_at", 6)] sc__law_batch.nd (mi_range1 T.b_range (ma_cons (me_use 3) (ma_nil))) (by decide +kernel) (fun _ _ _ _ _ => mgc_name 6 sc__law_batch.nd) (fun _ _ _ _ _ => mts_nil) (fun _ _ _ _ _ _ => me_if (mt_cmp (op_pEq hr) (me_use 6) (me_use 5) (nomark _)) (me_op op_pSub (me_use 2) (me_int)) (me_int)))) (ma_nil)))))))
theorem sc__law_written_out : FnScope ["_law_p", "_law_form", "_law_point", "_law_found", "_law_number", "_law_longer", "_law_at"] ["_law_p", "_law_form", "_law_point"] (defScope (topS 31)) := ⟨rfl, rfl, rfl, by decide +kernel, rfl, by decide +kernel, by decide +kernel⟩
theorem ok__law_written_out {f : Addr} {fd : FuncData} (F : Fun K "_law_written_out" "_law_written_out" (topS 31) f fd) (T : Tx K mg) : FnOk P w K mg base (L2.CX P w) 1 f fd ["_law_p", "_law_form", "_law_point"] (spD K mg 3 den__law_written_out) := by
  unfold den__law_written_out body__law_written_out
  exact def_ok F sc__law_written_out fun cdv A outer s H E G hr => mss_cons (ms_if (mt_cmp (op_pEq hr) (me_use 2) (me_use 0) (nomark _)) (mss_one (ms_ret (me_frz (mf_list (me_rev (me_use 1)) T.b_list)))) (mss_nil)) (mss_cons (ms_own 3 sc__law_written_out.nd (mf_disp (ma_nil))) (mss_cons (ms_for (passes_of rfl) (mi_val (me_rev (me_use 1))) (mg_name 4 sc__law_written_out.nd) (mss_cons (ms_set 5 sc__law_written_out.nd (me_op op_pAdd (me_use 3) (me_frz (mf_disp (ma_cons (me_int) (ma_nil)))))) (mss_cons (ms_compO (N := ["_law_p", "_law_form", "_law_point", "_law_found", "_law_number", "_law_longer", "_law_at"]) (sc := defScope (topS 31)) 3 [("_law_at", 6)] sc__law_written_out.nd (mi_range1 T.b_range (ma_cons (me_blt c_len T.b_len (ma_cons (me_use 5) (ma_nil))) (ma_nil))) (by decide +kernel) (fun _ _ _ _ _ => mgc_name 6 sc__law_written_out.nd) (fun _ _ _ _ _ => mts_nil) (fun _ _ _ _ _ _ => me_op op_pMod (me_bty c_int T.b_int (ma_cons (me_op op_pAdd (me_op op_pMul (me_use 2) (me_ix (me_use 5) (me_use 6))) (me_if (mt_cmp op_pGt (me_use 6) (me_int) (nomark _)) (me_ix (me_use 5) (me_op op_pSub (me_use 6) (me_int))) (me_int))) (ma_nil))) (me_use 0))) (mss_one (ms_setO 3 (me_op op_pMod (me_bty c_int T.b_int (ma_cons (me_op op_pAdd (me_ixO 3 (me_int)) (me_use 4)) (ma_nil))) (me_use 0)) (me_int)))))) (mss_one (ms_ret (me_use 3)))))
theorem sc__law_begun : FnScope ["_law_ground", "_law_batch_here", "_law_lengths_here", "_law_found", "_law_point", "_law_length"] ["_law_ground", "_law_batch_here", "_law_lengths_here"] (defScope (topS 33)) := ⟨rfl, rfl, rfl, by decide +kernel, rfl, by decide +kernel, by decide +kernel⟩
theorem ok__law_begun {f : Addr} {fd : FuncData} (F : Fun K "_law_begun" "_law_begun" (topS 33) f fd) (T : Tx K mg) (D__law_written_out : Df P w K mg base 1 "_law_written_out" 3 den__law_written_out) : FnOk P w K mg base (L2.CX P w) 2 f fd ["_law_ground", "_law_batch_here", "_law_lengths_here"] (spD K mg 3 den__law_begun) := by
  unfold den__law_begun body__law_begun
  exact def_ok F sc__law_begun fun cdv A outer s H E G hr => mss_cons (ms_own 3 sc__law_begun.nd (mf_disp (ma_nil))) (mss_cons (ms_for (passes_of rfl) (mi_zipM T.b_zip (ma_cons (me_ix (me_use 0) (me_int)) (ma_cons (me_use 2) (ma_nil)))) (mg_tup (mgs_cons (mg_name 4 sc__law_begun.nd) (mgs_cons (mg_name 5 sc__law_begun.nd) (mgs_nil)))) (mss_one (ms_expr (me_mthO (slot := PySem.F.slot_list_append) 3 m_append PySem.F.type_list_append (ma_cons (me_bty c_tuple T.b_tuple (ma_cons (me_cut (me_call D__law_written_out hr (takes_of (E := E) rfl rfl rfl rfl) (ma_cons (me_ix (me_use 0) (me_int)) (ma_cons (me_use 1) (ma_cons (me_use 4) (ma_nil))))) (mo_none) (mo_some (me_use 5))) (ma_nil))) (ma_nil)))))) (mss_one (ms_ret (me_bty c_tuple T.b_tuple (ma_cons (me_use 3) (ma_nil))))))
theorem sc__law_listed : FnScope ["_law_p", "_law_k", "_law_found", "_law_turn", "_law_longer", "_law_batch_here", "_law_number"] ["_law_p", "_law_k"] (defScope (topS 32)) := ⟨rfl, rfl, rfl, by decide +kernel, rfl, by decide +kernel, by decide +kernel⟩
theorem ok__law_listed {f : Addr} {fd : FuncData} (F : Fun K "_law_listed" "_law_listed" (topS 32) f fd) (T : Tx K mg) : FnOk P w K mg base (L2.CX P w) 1 f fd ["_law_p", "_law_k"] (spD K mg 2 den__law_listed) := by
  unfold den__law_listed body__law_listed
  exact def_ok F sc__law_listed fun cdv A outer s H E G hr => mss_cons (ms_set 2 sc__law_listed.nd (me_frz (mf_disp (ma_cons (me_tup (ma_nil)) (ma_nil))))) (mss_cons (ms_for (passes_of rfl) (mi_range1 T.b_range (ma_cons (me_use 1) (ma_nil))) (mg_name 3 sc__law_listed.nd) (mss_cons (ms_own 4 sc__law_listed.nd (mf_disp (ma_nil))) (mss_cons (ms_for (passes_of rfl) (mi_val (me_use 2)) (mg_name 5 sc__law_listed.nd) (mss_one (ms_expr (me_mthO (slot := PySem.F.slot_list_extend) 4 m_extend PySem.F.type_list_extend (ma_cons (me_frz (mf_comp (N := ["_law_p", "_law_k", "_law_found", "_law_turn", "_law_longer", "_law_batch_here", "_law_number"]) (sc := defScope (topS 32)) [("_law_number", 6)] sc__law_listed.nd (mi_range1 T.b_range (ma_cons (me_use 0) (ma_nil))) (by decide +kernel) (fun _ _ _ _ _ => mgc_name 6 sc__law_listed.nd) (fun _ _ _ _ _ => mts_nil) (fun _ _ _ _ _ _ => me_op op_pAdd (me_use 5) (me_tup (ma_cons (me_use 6) (ma_nil)))))) (ma_nil)))))) (mss_one (ms_set 2 sc__law_listed.nd (me_use 4)))))) (mss_one (ms_ret (me_use 2))))
theorem sc_is_whole : FnScope ["thing", "low", "high"] ["thing", "low", "high"] (defScope (topS 7)) := ⟨rfl, rfl, rfl, by decide +kernel, rfl, by decide +kernel, by decide +kernel⟩
theorem ok_is_whole {f : Addr} {fd : FuncData} (F : Fun K "is_whole" "is_whole" (topS 7) f fd) (T : Tx K mg) : FnOk P w K mg base (L2.CX P w) 1 f fd ["thing", "low", "high"] (spD K mg 3 den_is_whole) := by
  unfold den_is_whole body_is_whole
  exact def_ok F sc_is_whole fun cdv A outer s H E G hr => mss_one (ms_ret (me_and (me_blt c_isi T.b_isinstance (ma_cons (me_use 0) (ma_cons (me_ty T.b_int (by decide +kernel)) (ma_nil)))) (me_and (me_not (me_blt c_isi T.b_isinstance (ma_cons (me_use 0) (ma_cons (me_ty T.b_bool (by decide +kernel)) (ma_nil))))) (me_one (me_chain op_pLe op_pLe (me_use 1) (me_use 0) (me_use 2))))))
theorem sc_is_prime : FnScope ["n", "divisor"] ["n"] (defScope (topS 8)) := ⟨rfl, rfl, rfl, by decide +kernel, rfl, by decide +kernel, by decide +kernel⟩
theorem ok_is_prime {f : Addr} {fd : FuncData} (F : Fun K "is_prime" "is_prime" (topS 8) f fd) (T : Tx K mg) (D_is_whole : Df P w K mg base 1 "is_whole" 3 den_is_whole) : FnOk P w K mg base (L2.CX P w) 2 f fd ["n"] (spD K mg 1 den_is_prime) := by
  obtain ⟨t_MOST_PRIME, c_MOST_PRIME⟩ := T.c_MOST_PRIME
  unfold den_is_prime body_is_prime
  exact def_ok F sc_is_prime fun cdv A outer s H E G hr => mss_cons (ms_if (mt_not (mt_tru (me_call D_is_whole hr (takes_of (E := E) rfl rfl rfl rfl) (ma_cons (me_use 0) (ma_cons (me_int) (ma_cons (me_gint c_MOST_PRIME) (ma_nil))))))) (mss_one (ms_ret (me_bl))) (mss_nil)) (mss_cons (ms_set 1 sc_is_prime.nd (me_int)) (mss_cons (ms_while (passes_of rfl) (mt_cmp op_pLe (me_op op_pMul (me_use 1) (me_use 1)) (me_use 0) (nomark _)) (mss_cons (ms_if (mt_cmp (op_pEq hr) (me_op op_pMod (me_use 0) (me_use 1)) (me_int) (nomark _)) (mss_one (ms_ret (me_bl))) (mss_nil)) (mss_one (ms_set 1 sc_is_prime.nd (me_op op_pAdd (me_use 1) (me_int)))))) (mss_one (ms_ret (me_bl)))))
theorem sc_are_points : FnScope ["p", "thing", "index"] ["p", "thing"] (defScope (topS 13)) := ⟨rfl, rfl, rfl, by decide +kernel, rfl, by decide +kernel, by decide +kernel⟩
theorem ok_are_points {f : Addr} {fd : FuncData} (F : Fun K "are_points" "are_points" (topS 13) f fd) (T : Tx K mg) (D_is_whole : Df P w K mg base 1 "is_whole" 3 den_is_whole) : FnOk P w K mg base (L2.CX P w) 2 f fd ["p", "thing"] (spD K mg 2 den_are_points) := by
  obtain ⟨t_MOST_SHELVES, c_MOST_SHELVES⟩ := T.c_MOST_SHELVES
  unfold den_are_points body_are_points
  exact def_ok F sc_are_points fun cdv A outer s H E G hr => mss_cons (ms_if (mt_w (mw_or (mt_not (mt_tru (me_blt c_isi T.b_isinstance (ma_cons (me_use 1) (ma_cons (me_ty T.b_tuple (by decide +kernel)) (ma_nil)))))) (mw_or1 (mt_not (mt_chain op_pLe op_pLe (me_int) (me_blt c_len T.b_len (ma_cons (me_use 1) (ma_nil))) (me_gint c_MOST_SHELVES)))))) (mss_one (ms_ret (me_bl))) (mss_nil)) (mss_cons (ms_for (passes_of rfl) (mi_range1 T.b_range (ma_cons (me_blt c_len T.b_len (ma_cons (me_use 1) (ma_nil))) (ma_nil))) (mg_name 2 sc_are_points.nd) (mss_one (ms_if (mt_w (mw_or (mt_not (mt_tru (me_call D_is_whole hr (takes_of (E := E) rfl rfl rfl rfl) (ma_cons (me_ix (me_use 1) (me_use 2)) (ma_cons (me_int) (ma_cons (me_use 0) (ma_nil))))))) (mw_or1 (mt_cmp (op_pInA hr) (me_ix (me_use 1) (me_use 2)) (me_cut (me_use 1) (mo_none) (mo_some (me_use 2))) (by with_unfolding_all rfl))))) (mss_one (ms_ret (me_bl))) (mss_nil)))) (mss_one (ms_ret (me_bl))))
theorem sc_made_ground : FnScope ["thing"] ["thing"] (defScope (topS 14)) := ⟨rfl, rfl, rfl, by decide +kernel, rfl, by decide +kernel, by decide +kernel⟩
theorem ok_made_ground {f : Addr} {fd : FuncData} (F : Fun K "made_ground" "made_ground" (topS 14) f fd) (T : Tx K mg) (D_is_prime : Df P w K mg base 2 "is_prime" 1 den_is_prime) (D_is_whole : Df P w K mg base 1 "is_whole" 3 den_is_whole) (D_are_points : Df P w K mg base 2 "are_points" 2 den_are_points) (E_BadGround : ErC P w K mg base "BadGround") : FnOk P w K mg base (L2.CX P w) 3 f fd ["thing"] (spD K mg 1 den_made_ground) := by
  obtain ⟨t_MOST_NUMBERS, c_MOST_NUMBERS⟩ := T.c_MOST_NUMBERS
  unfold den_made_ground body_made_ground
  exact def_ok F sc_made_ground fun cdv A outer s H E G hr => mss_cons (ms_if (mt_w (mw_or (mt_not (mt_tru (me_blt c_isi T.b_isinstance (ma_cons (me_use 0) (ma_cons (me_ty T.b_tuple (by decide +kernel)) (ma_nil)))))) (mw_or1 (mt_cmp (op_pNe hr) (me_blt c_len T.b_len (ma_cons (me_use 0) (ma_nil))) (me_int) (nomark _))))) (mss_one (ms_raise E_BadGround hr (takes_of (E := E) rfl rfl rfl rfl) (me_neg (me_int)))) (mss_nil)) (mss_cons (ms_if (mt_not (mt_tru (me_call D_is_prime hr (takes_of (E := E) rfl rfl rfl rfl) (ma_cons (me_ix (me_use 0) (me_int)) (ma_nil))))) (mss_one (ms_raise E_BadGround hr (takes_of (E := E) rfl rfl rfl rfl) (me_int))) (mss_nil)) (mss_cons (ms_if (mt_not (mt_tru (me_call D_is_whole hr (takes_of (E := E) rfl rfl rfl rfl) (ma_cons (me_ix (me_use 0) (me_int)) (ma_cons (me_int) (ma_cons (me_gint c_MOST_NUMBERS) (ma_nil))))))) (mss_one (ms_raise E_BadGround hr (takes_of (E := E) rfl rfl rfl rfl) (me_int))) (mss_nil)) (mss_cons (ms_if (mt_not (mt_tru (me_call D_are_points hr (takes_of (E := E) rfl rfl rfl rfl) (ma_cons (me_ix (me_use 0) (me_int)) (ma_cons (me_ix (me_use 0) (me_int)) (ma_nil)))))) (mss_one (ms_raise E_BadGround hr (takes_of (E := E) rfl rfl rfl rfl) (me_int))) (mss_nil)) (mss_one (ms_ret (me_use 0))))))
theorem sc_shelves : FnScope ["ground"] ["ground"] (defScope (topS 15)) := ⟨rfl, rfl, rfl, by decide +kernel, rfl, by decide +kernel, by decide +kernel⟩
theorem ok_shelves {f : Addr} {fd : FuncData} (F : Fun K "shelves" "shelves" (topS 15) f fd) (T : Tx K mg) (D_made_ground : Df P w K mg base 3 "made_ground" 1 den_made_ground) : FnOk P w K mg base (L2.CX P w) 4 f fd ["ground"] (spD K mg 1 den_shelves) := by
  unfold den_shelves body_shelves
  exact def_ok F sc_shelves fun cdv A outer s H E G hr => mss_one (ms_ret (me_blt c_len T.b_len (ma_cons (me_ix (me_call D_made_ground hr (takes_of (E := E) rfl rfl rfl rfl) (ma_cons (me_use 0) (ma_nil))) (me_int)) (ma_nil))))
theorem sc_made_lengths : FnScope ["ground", "thing", "many", "index"] ["ground", "thing"] (defScope (topS 16)) := ⟨rfl, rfl, rfl, by decide +kernel, rfl, by decide +kernel, by decide +kernel⟩
theorem ok_made_lengths {f : Addr} {fd : FuncData} (F : Fun K "made_lengths" "made_lengths" (topS 16) f fd) (T : Tx K mg) (D_shelves : Df P w K mg base 4 "shelves" 1 den_shelves) (D_is_whole : Df P w K mg base 1 "is_whole" 3 den_is_whole) (E_BadLengths : ErC P w K mg base "BadLengths") : FnOk P w K mg base (L2.CX P w) 5 f fd ["ground", "thing"] (spD K mg 2 den_made_lengths) := by
  obtain ⟨t_MOST_CELLS, c_MOST_CELLS⟩ := T.c_MOST_CELLS
  unfold den_made_lengths body_made_lengths
  exact def_ok F sc_made_lengths fun cdv A outer s H E G hr => mss_cons (ms_set 2 sc_made_lengths.nd (me_call D_shelves hr (takes_of (E := E) rfl rfl rfl rfl) (ma_cons (me_use 0) (ma_nil)))) (mss_cons (ms_if (mt_w (mw_or (mt_not (mt_tru (me_blt c_isi T.b_isinstance (ma_cons (me_use 1) (ma_cons (me_ty T.b_tuple (by decide +kernel)) (ma_nil)))))) (mw_or1 (mt_cmp (op_pNe hr) (me_blt c_len T.b_len (ma_cons (me_use 1) (ma_nil))) (me_use 2) (nomark _))))) (mss_one (ms_raise E_BadLengths hr (takes_of (E := E) rfl rfl rfl rfl) (me_neg (me_int)))) (mss_nil)) (mss_cons (ms_for (passes_of rfl) (mi_range1 T.b_range (ma_cons (me_use 2) (ma_nil))) (mg_name 3 sc_made_lengths.nd) (mss_one (ms_if (mt_not (mt_tru (me_call D_is_whole hr (takes_of (E := E) rfl rfl rfl rfl) (ma_cons (me_ix (me_use 1) (me_use 3)) (ma_cons (me_int) (ma_cons (me_gint c_MOST_CELLS) (ma_nil))))))) (mss_one (ms_raise E_BadLengths hr (takes_of (E := E) rfl rfl rfl rfl) (me_use 3))) (mss_nil)))) (mss_one (ms_ret (me_use 1)))))
theorem sc_ways_left : FnScope ["ground", "lengths", "total"] ["ground", "lengths"] (defScope (topS 23)) := ⟨rfl, rfl, rfl, by decide +kernel, rfl, by decide +kernel, by decide +kernel⟩
theorem ok_ways_left {f : Addr} {fd : FuncData} (F : Fun K "ways_left" "ways_left" (topS 23) f fd) (T : Tx K mg) (D_made_lengths : Df P w K mg base 5 "made_lengths" 2 den_made_lengths) : FnOk P w K mg base (L2.CX P w) 6 f fd ["ground", "lengths"] (spD K mg 2 den_ways_left) := by
  unfold den_ways_left body_ways_left
  exact def_ok F sc_ways_left fun cdv A outer s H E G hr => mss_cons (ms_set 2 sc_ways_left.nd (me_blt c_sum T.b_sum (ma_cons (me_call D_made_lengths hr (takes_of (E := E) rfl rfl rfl rfl) (ma_cons (me_use 0) (ma_cons (me_use 1) (ma_nil)))) (ma_nil)))) (mss_one (ms_ret (me_blt c_max T.b_max (ma_cons (me_int) (ma_cons (me_op op_pSub (me_ix (me_use 0) (me_int)) (me_use 2)) (ma_nil))))))
theorem sc_times : FnScope ["p", "f", "g", "found", "i", "j"] ["p", "f", "g"] (defScope (topS 19)) := ⟨rfl, rfl, rfl, by decide +kernel, rfl, by decide +kernel, by decide +kernel⟩
theorem ok_times {f : Addr} {fd : FuncData} (F : Fun K "times" "times" (topS 19) f fd) (T : Tx K mg) : FnOk P w K mg base (L2.CX P w) 1 f fd ["p", "f", "g"] (spD K mg 3 den_times) := by
  unfold den_times body_times
  exact def_ok F sc_times fun cdv A outer s H E G hr => mss_cons (ms_own 3 sc_times.nd (mf_mulL (me_frz (mf_disp (ma_cons (me_int) (ma_nil)))) (me_op op_pSub (me_op op_pAdd (me_blt c_len T.b_len (ma_cons (me_use 1) (ma_nil))) (me_blt c_len T.b_len (ma_cons (me_use 2) (ma_nil)))) (me_int)))) (mss_cons (ms_for (passes_of rfl) (mi_range1 T.b_range (ma_cons (me_blt c_len T.b_len (ma_cons (me_use 1) (ma_nil))) (ma_nil))) (mg_name 4 sc_times.nd) (mss_one (ms_for (passes_of rfl) (mi_range1 T.b_range (ma_cons (me_blt c_len T.b_len (ma_cons (me_use 2) (ma_nil))) (ma_nil))) (mg_name 5 sc_times.nd) (mss_one (ms_setO 3 (me_op op_pMod (me_op op_pAdd (me_ixO 3 (me_op op_pAdd (me_use 4) (me_use 5))) (me_op op_pMul (me_ix (me_use 1) (me_use 4)) (me_ix (me_use 2) (me_use 5)))) (me_use 0)) (me_op op_pAdd (me_use 4) (me_use 5))))))) (mss_one (ms_ret (me_bty c_tuple T.b_tuple (ma_cons (me_use 3) (ma_nil))))))
theorem sc_line : FnScope ["p", "point"] ["p", "point"] (defScope (topS 20)) := ⟨rfl, rfl, rfl, by decide +kernel, rfl, by decide +kernel, by decide +kernel⟩
theorem ok_line {f : Addr} {fd : FuncData} (F : Fun K "line" "line" (topS 20) f fd) (T : Tx K mg) : FnOk P w K mg base (L2.CX P w) 1 f fd ["p", "point"] (spD K mg 2 den_line) := by
  unfold den_line body_line
  exact def_ok F sc_line fun cdv A outer s H E G hr => mss_one (ms_ret (me_if (mt_cmp (op_pEq hr) (me_use 1) (me_use 0) (nomark _)) (me_tup (ma_cons (me_int) (ma_cons (me_int) (ma_nil)))) (me_tup (ma_cons (me_op op_pMod (me_neg (me_use 1)) (me_use 0)) (ma_cons (me_int) (ma_nil))))))
theorem sc_product : FnScope ["ground", "lengths", "p", "k", "points", "many", "found", "point", "length", "turn"] ["ground", "lengths"] (defScope (topS 21)) := ⟨rfl, rfl, rfl, by decide +kernel, rfl, by decide +kernel, by decide +kernel⟩
theorem ok_product {f : Addr} {fd : FuncData} (F : Fun K "product" "product" (topS 21) f fd) (T : Tx K mg) (D_made_ground : Df P w K mg base 3 "made_ground" 1 den_made_ground) (D_made_lengths : Df P w K mg base 5 "made_lengths" 2 den_made_lengths) (D_times : Df P w K mg base 1 "times" 3 den_times) (D_line : Df P w K mg base 1 "line" 2 den_line) (E_TooMany : ErC P w K mg base "TooMany") : FnOk P w K mg base (L2.CX P w) 6 f fd ["ground", "lengths"] (spD K mg 2 den_product) := by
  obtain ⟨t_MOST_DEGREE, c_MOST_DEGREE⟩ := T.c_MOST_DEGREE
  unfold den_product body_product
  exact def_ok F sc_product fun cdv A outer s H E G hr => mss_cons (ms_asg (me_call D_made_ground hr (takes_of (E := E) rfl rfl rfl rfl) (ma_cons (me_use 0) (ma_nil))) (mg_tup (mgs_cons (mg_name 2 sc_product.nd) (mgs_cons (mg_name 3 sc_product.nd) (mgs_cons (mg_name 4 sc_product.nd) (mgs_nil)))))) (mss_cons (ms_set 5 sc_product.nd (me_call D_made_lengths hr (takes_of (E := E) rfl rfl rfl rfl) (ma_cons (me_use 0) (ma_cons (me_use 1) (ma_nil))))) (mss_cons (ms_if (mt_cmp op_pGt (me_blt c_sum T.b_sum (ma_cons (me_use 5) (ma_nil))) (me_gint c_MOST_DEGREE) (nomark _)) (mss_one (ms_raise E_TooMany hr (takes_of (E := E) rfl rfl rfl rfl) (me_blt c_sum T.b_sum (ma_cons (me_use 5) (ma_nil))))) (mss_nil)) (mss_cons (ms_set 6 sc_product.nd (me_tup (ma_cons (me_int) (ma_nil)))) (mss_cons (ms_for (passes_of rfl) (mi_zipM T.b_zip (ma_cons (me_use 4) (ma_cons (me_use 5) (ma_nil)))) (mg_tup (mgs_cons (mg_name 7 sc_product.nd) (mgs_cons (mg_name 8 sc_product.nd) (mgs_nil)))) (mss_one (ms_for (passes_of rfl) (mi_range1 T.b_range (ma_cons (me_use 8) (ma_nil))) (mg_name 9 sc_product.nd) (mss_one (ms_set 6 sc_product.nd (me_call D_times hr (takes_of (E := E) rfl rfl rfl rfl) (ma_cons (me_use 2) (ma_cons (me_use 6) (ma_cons (me_call D_line hr (takes_of (E := E) rfl rfl rfl rfl) (ma_cons (me_use 2) (ma_cons (me_use 7) (ma_nil)))) (ma_nil)))))))))) (mss_one (ms_ret (me_use 6)))))))
theorem sc_early : FnScope ["ground", "lengths", "k", "free", "lines", "found", "place", "at"] ["ground", "lengths"] (defScope (topS 24)) := ⟨rfl, rfl, rfl, by decide +kernel, rfl, by decide +kernel, by decide +kernel⟩
theorem ok_early {f : Addr} {fd : FuncData} (F : Fun K "early" "early" (topS 24) f fd) (T : Tx K mg) (D_ways_left : Df P w K mg base 6 "ways_left" 2 den_ways_left) (D_made_ground : Df P w K mg base 3 "made_ground" 1 den_made_ground) (D_product : Df P w K mg base 6 "product" 2 den_product) : FnOk P w K mg base (L2.CX P w) 7 f fd ["ground", "lengths"] (spD K mg 2 den_early) := by
  unfold den_early body_early
  exact def_ok F sc_early fun cdv A outer s H E G hr => mss_cons (ms_par 2 3 sc_early.nd (ma_cons (me_ix (me_call D_made_ground hr (takes_of (E := E) rfl rfl rfl rfl) (ma_cons (me_use 0) (ma_nil))) (me_int)) (ma_cons (me_call D_ways_left hr (takes_of (E := E) rfl rfl rfl rfl) (ma_cons (me_use 0) (ma_cons (me_use 1) (ma_nil)))) (ma_nil)))) (mss_cons (ms_if (mt_cmp (op_pEq hr) (me_use 3) (me_int) (nomark _)) (mss_one (ms_ret (me_tupR (me_use 2) T.b_tuple T.b_range))) (mss_nil)) (mss_cons (ms_set 4 sc_early.nd (me_call D_product hr (takes_of (E := E) rfl rfl rfl rfl) (ma_cons (me_use 0) (ma_cons (me_use 1) (ma_nil))))) (mss_cons (ms_own 5 sc_early.nd (mf_disp (ma_nil))) (mss_cons (ms_for (passes_of rfl) (mi_range1 T.b_range (ma_cons (me_use 2) (ma_nil))) (mg_name 6 sc_early.nd) (mss_one (ms_if (mt_cmp (op_pEq hr) (me_frz (mf_comp (N := ["ground", "lengths", "k", "free", "lines", "found", "place", "at"]) (sc := defScope (topS 24)) [("at", 7)] sc_early.nd (mi_range2 T.b_range (ma_cons (me_blt c_max T.b_max (ma_cons (me_int) (ma_cons (me_op op_pAdd (me_op op_pSub (me_use 6) (me_use 3)) (me_int)) (ma_nil)))) (ma_cons (me_blt c_min T.b_min (ma_cons (me_op op_pAdd (me_use 6) (me_int)) (ma_cons (me_blt c_len T.b_len (ma_cons (me_use 4) (ma_nil))) (ma_nil)))) (ma_nil)))) (by decide +kernel) (fun _ _ _ _ _ => mgc_name 7 sc_early.nd) (fun _ _ _ _ _ => mts_one (fun _ => mt_cmp (op_pNe hr) (me_ix (me_use 4) (me_use 7)) (me_int) (nomark _))) (fun _ _ _ _ _ _ => me_int))) (me_frz (mf_disp (ma_nil))) (nomark _)) (mss_one (ms_expr (me_mthO (slot := PySem.F.slot_list_append) 5 m_append PySem.F.type_list_append (ma_cons (me_use 6) (ma_nil))))) (mss_nil)))) (mss_one (ms_ret (me_bty c_tuple T.b_tuple (ma_cons (me_use 5) (ma_nil)))))))))
theorem sc_law : FnScope ["_law_script", "_law_pool_here", "_law_p", "_law_points", "_law_ground", "_law_lengths_here", "_law_batch_here", "_law_own", "_law_alike", "_law_other", "_law_many", "_law_turn", "_law_told", "_law_place", "_law_numbers", "_law_counts", "_law_number"] ["_law_script"] (defScope (topS 34)) := ⟨rfl, rfl, rfl, by decide +kernel, rfl, by decide +kernel, by decide +kernel⟩
theorem ok_law {f : Addr} {fd : FuncData} (F : Fun K "law" "law" (topS 34) f fd) (T : Tx K mg) (D__law_pool : Df P w K mg base 1 "_law_pool" 1 den__law_pool) (D__law_draw : Df P w K mg base 1 "_law_draw" 2 den__law_draw) (D__law_turned : Df P w K mg base 2 "_law_turned" 2 den__law_turned) (D__law_lengths : Df P w K mg base 2 "_law_lengths" 3 den__law_lengths) (D__law_batch : Df P w K mg base 2 "_law_batch" 2 den__law_batch) (D__law_begun : Df P w K mg base 2 "_law_begun" 3 den__law_begun) (D__law_listed : Df P w K mg base 1 "_law_listed" 2 den__law_listed) (D_ways_left : Df P w K mg base 6 "ways_left" 2 den_ways_left) (D_early : Df P w K mg base 7 "early" 2 den_early) : FnOk P w K mg base (L2.CX P w) 8 f fd ["_law_script"] (spD K mg 1 den_law) := by
  unfold den_law body_law
  exact def_ok F sc_law fun cdv A outer s H E G hr => mss_cons (ms_set 1 sc_law.nd (me_call D__law_pool hr (takes_of (E := E) rfl rfl rfl rfl) (ma_cons (me_use 0) (ma_nil)))) (mss_cons (ms_set 2 sc_law.nd (me_op op_pAdd (me_int) (me_call D__law_draw hr (takes_of (E := E) rfl rfl rfl rfl) (ma_cons (me_use 1) (ma_cons (me_int) (ma_nil)))))) (mss_cons (ms_set 3 sc_law.nd (me_cut (me_call D__law_turned hr (takes_of (E := E) rfl rfl rfl rfl) (ma_cons (me_use 1) (ma_cons (me_op op_pAdd (me_use 2) (me_int)) (ma_nil)))) (mo_none) (mo_some (me_op op_pAdd (me_int) (me_call D__law_draw hr (takes_of (E := E) rfl rfl rfl rfl) (ma_cons (me_use 1) (ma_cons (me_blt c_min T.b_min (ma_cons (me_int) (ma_cons (me_op op_pAdd (me_use 2) (me_int)) (ma_nil)))) (ma_nil)))))))) (mss_cons (ms_set 4 sc_law.nd (me_tup (ma_cons (me_use 2) (ma_cons (me_op op_pAdd (me_int) (me_call D__law_draw hr (takes_of (E := E) rfl rfl rfl rfl) (ma_cons (me_use 1) (ma_cons (me_if (mt_cmp (op_pEq hr) (me_use 2) (me_int) (nomark _)) (me_int) (me_int)) (ma_nil))))) (ma_cons (me_bty c_tuple T.b_tuple (ma_cons (me_use 3) (ma_nil))) (ma_nil)))))) (mss_cons (ms_set 5 sc_law.nd (me_call D__law_lengths hr (takes_of (E := E) rfl rfl rfl rfl) (ma_cons (me_use 1) (ma_cons (me_use 4) (ma_cons (me_op op_pAdd (me_int) (me_call D__law_draw hr (takes_of (E := E) rfl rfl rfl rfl) (ma_cons (me_use 1) (ma_cons (me_int) (ma_nil))))) (ma_nil)))))) (mss_cons (ms_if (mt_cmp op_pGt (me_blt c_sum T.b_sum (ma_cons (me_use 5) (ma_nil))) (me_ix (me_use 4) (me_int)) (nomark _)) (mss_one (ms_set 5 sc_law.nd (me_op op_pAdd (me_tup (ma_cons (me_call D__law_draw hr (takes_of (E := E) rfl rfl rfl rfl) (ma_cons (me_use 1) (ma_cons (me_op op_pAdd (me_ix (me_use 4) (me_int)) (me_int)) (ma_nil)))) (ma_nil))) (me_op op_pMulA (me_tup (ma_cons (me_int) (ma_nil))) (me_op op_pSub (me_blt c_len T.b_len (ma_cons (me_use 5) (ma_nil))) (me_int)))))) (mss_nil)) (mss_cons (ms_set 6 sc_law.nd (me_call D__law_batch hr (takes_of (E := E) rfl rfl rfl rfl) (ma_cons (me_use 1) (ma_cons (me_use 4) (ma_nil))))) (mss_cons (ms_set 7 sc_law.nd (me_call D__law_begun hr (takes_of (E := E) rfl rfl rfl rfl) (ma_cons (me_use 4) (ma_cons (me_use 6) (ma_cons (me_use 5) (ma_nil)))))) (mss_cons (ms_comp (N := ["_law_script", "_law_pool_here", "_law_p", "_law_points", "_law_ground", "_law_lengths_here", "_law_batch_here", "_law_own", "_law_alike", "_law_other", "_law_many", "_law_turn", "_law_told", "_law_place", "_law_numbers", "_law_counts", "_law_number"]) (sc := defScope (topS 34)) 8 [("_law_other", 9)] sc_law.nd (mi_val (me_call D__law_listed hr (takes_of (E := E) rfl rfl rfl rfl) (ma_cons (me_use 2) (ma_cons (me_ix (me_use 4) (me_int)) (ma_nil))))) (by decide +kernel) (fun _ _ _ _ _ => mgc_name 9 sc_law.nd) (fun _ _ _ _ _ => mts_one (fun _ => mt_cmp (op_pEq hr) (me_call D__law_begun hr takes0 (ma_cons (me_use 4) (ma_cons (me_use 9) (ma_cons (me_use 5) (ma_nil))))) (me_use 7) (nomark _))) (fun _ _ _ _ _ _ => me_use 9)) (mss_cons (ms_set 10 sc_law.nd (me_int)) (mss_cons (ms_for (passes_of rfl) (mi_range1 T.b_range (ma_cons (me_call D_ways_left hr (takes_of (E := E) rfl rfl rfl rfl) (ma_cons (me_use 4) (ma_cons (me_use 5) (ma_nil)))) (ma_nil))) (mg_name 11 sc_law.nd) (mss_one (ms_set 10 sc_law.nd (me_op op_pMul (me_use 10) (me_use 2))))) (mss_cons (ms_if (mt_cmp (op_pNe hr) (me_blt c_len T.b_len (ma_cons (me_use 8) (ma_nil))) (me_use 10) (nomark _)) (mss_one (ms_ret (me_bl))) (mss_nil)) (mss_cons (ms_set 12 sc_law.nd (me_call D_early hr (takes_of (E := E) rfl rfl rfl rfl) (ma_cons (me_use 4) (ma_cons (me_use 5) (ma_nil))))) (mss_cons (ms_for (passes_of rfl) (mi_range1 T.b_range (ma_cons (me_ix (me_use 4) (me_int)) (ma_nil))) (mg_name 13 sc_law.nd) (mss_cons (ms_set 14 sc_law.nd (me_frz (mf_comp (N := ["_law_script", "_law_pool_here", "_law_p", "_law_points", "_law_ground", "_law_lengths_here", "_law_batch_here", "_law_own", "_law_alike", "_law_other", "_law_many", "_law_turn", "_law_told", "_law_place", "_law_numbers", "_law_counts", "_law_number"]) (sc := defScope (topS 34)) [("_law_other", 9)] sc_law.nd (mi_val (me_use 8)) (by decide +kernel) (fun _ _ _ _ _ => mgc_name 9 sc_law.nd) (fun _ _ _ _ _ => mts_nil) (fun _ _ _ _ _ _ => me_ix (me_use 9) (me_use 13))))) (mss_cons (ms_comp (N := ["_law_script", "_law_pool_here", "_law_p", "_law_points", "_law_ground", "_law_lengths_here", "_law_batch_here", "_law_own", "_law_alike", "_law_other", "_law_many", "_law_turn", "_law_told", "_law_place", "_law_numbers", "_law_counts", "_law_number"]) (sc := defScope (topS 34)) 15 [("_law_number", 16)] sc_law.nd (mi_range1 T.b_range (ma_cons (me_use 2) (ma_nil))) (by decide +kernel) (fun _ _ _ _ _ => mgc_name 16 sc_law.nd) (fun _ _ _ _ _ => mts_nil) (fun _ _ _ _ _ _ => me_countL (me_use 14) (ma_cons (me_use 16) (ma_nil)))) (mss_cons (ms_if (mt_w (mw_and (mt_cmp (op_pInA hr) (me_use 13) (me_use 12) (by with_unfolding_all rfl)) (mw_and1 (mt_cmp (op_pNe hr) (me_ix (me_use 15) (me_ix (me_use 6) (me_use 13))) (me_use 10) (nomark _))))) (mss_one (ms_ret (me_bl))) (mss_nil)) (mss_one (ms_if (mt_w (mw_and (mt_cmp (op_pNotInA hr) (me_use 13) (me_use 12) (by with_unfolding_all rfl)) (mw_and1 (mt_cmp (op_pNe hr) (me_use 15) (me_op op_pMul (me_frz (mf_disp (ma_cons (me_op op_pDiv (me_use 10) (me_use 2)) (ma_nil)))) (me_use 2)) (nomark _))))) (mss_one (ms_ret (me_bl))) (mss_nil))))))) (mss_one (ms_ret (me_cmp (op_pEq hr) (me_frz (mf_list (me_use 12) T.b_list)) (me_frz (mf_srtSet T.b_sorted T.b_set rfl (me_frz (mf_list (me_use 12) T.b_list)))) (nomark _)))))))))))))))))
end
end FS
set_option Elab.async false
set_option linter.all false
set_option maxRecDepth 100000
set_option maxHeartbeats 2000000
/-! FsEnd: the end of a law where defs of the program make generator expressions. -/
namespace LamX
open PySem PySem.Spec PyProof.Rows L2
end LamX
set_option Elab.async false
set_option linter.all false
set_option maxRecDepth 100000
set_option maxHeartbeats 8000000
/-! K53End: the end of law_k53_whole_known_early (printed by our gen.py) -/
namespace FSEnd
open PySem PySem.Spec PyProof.Rows L2 FS
theorem all_mk {P : Program} {w : World} {K : PySem.W.Frag} {h : Heap} {mg : Str → Option Value} {fa : Addr} (X : K.In h) (G : h.Ns mainGlobals mg) (hfa : mg "law" = some (.ref fa))
    {fI : Addr} {odI anI : Option Addr} {slI : Array (Option Value)} {ocI kVI dcI pmI cdI ctI : Value}
    {C_BadGround : Addr} {nm_BadGround q_BadGround : Str} {N_BadGround : Addr} {bs_BadGround bm_BadGround : List Value} {sn_BadGround : List Str} {sub_BadGround : List Value} {ab_BadGround : Bool} {col_BadGround : Option Bool} {dd_BadGround : Option Addr} {m0_BadGround m1_BadGround m2_BadGround m3_BadGround m5_BadGround : Option Value}
    {C_BadLengths : Addr} {nm_BadLengths q_BadLengths : Str} {N_BadLengths : Addr} {bs_BadLengths bm_BadLengths : List Value} {sn_BadLengths : List Str} {sub_BadLengths : List Value} {ab_BadLengths : Bool} {col_BadLengths : Option Bool} {dd_BadLengths : Option Addr} {m0_BadLengths m1_BadLengths m2_BadLengths m3_BadLengths m5_BadLengths : Option Value}
    {C_TooMany : Addr} {nm_TooMany q_TooMany : Str} {N_TooMany : Addr} {bs_TooMany bm_TooMany : List Value} {sn_TooMany : List Str} {sub_TooMany : List Value} {ab_TooMany : Bool} {col_TooMany : Option Bool} {dd_TooMany : Option Addr} {m0_TooMany m1_TooMany m2_TooMany m3_TooMany m5_TooMany : Option Value}
    {f__law_pool : Addr} {od__law_pool an__law_pool : Option Addr} {sl__law_pool : Array (Option Value)} {oc__law_pool kV__law_pool dc__law_pool pm__law_pool ct__law_pool : Value} {cd__law_pool : Value}
    {f__law_draw : Addr} {od__law_draw an__law_draw : Option Addr} {sl__law_draw : Array (Option Value)} {oc__law_draw kV__law_draw dc__law_draw pm__law_draw ct__law_draw : Value} {cd__law_draw : Value}
    {f__law_turned : Addr} {od__law_turned an__law_turned : Option Addr} {sl__law_turned : Array (Option Value)} {oc__law_turned kV__law_turned dc__law_turned pm__law_turned ct__law_turned : Value} {cd__law_turned : Value}
    {f__law_lengths : Addr} {od__law_lengths an__law_lengths : Option Addr} {sl__law_lengths : Array (Option Value)} {oc__law_lengths kV__law_lengths dc__law_lengths pm__law_lengths ct__law_lengths : Value} {cd__law_lengths : Value}
    {f__law_batch : Addr} {od__law_batch an__law_batch : Option Addr} {sl__law_batch : Array (Option Value)} {oc__law_batch kV__law_batch dc__law_batch pm__law_batch ct__law_batch : Value} {cd__law_batch : Value}
    {f__law_written_out : Addr} {od__law_written_out an__law_written_out : Option Addr} {sl__law_written_out : Array (Option Value)} {oc__law_written_out kV__law_written_out dc__law_written_out pm__law_written_out ct__law_written_out : Value} {cd__law_written_out : Value}
    {f__law_begun : Addr} {od__law_begun an__law_begun : Option Addr} {sl__law_begun : Array (Option Value)} {oc__law_begun kV__law_begun dc__law_begun pm__law_begun ct__law_begun : Value} {cd__law_begun : Value}
    {f__law_listed : Addr} {od__law_listed an__law_listed : Option Addr} {sl__law_listed : Array (Option Value)} {oc__law_listed kV__law_listed dc__law_listed pm__law_listed ct__law_listed : Value} {cd__law_listed : Value}
    {f_is_whole : Addr} {od_is_whole an_is_whole : Option Addr} {sl_is_whole : Array (Option Value)} {oc_is_whole kV_is_whole dc_is_whole pm_is_whole ct_is_whole : Value} {cd_is_whole : Value}
    {f_is_prime : Addr} {od_is_prime an_is_prime : Option Addr} {sl_is_prime : Array (Option Value)} {oc_is_prime kV_is_prime dc_is_prime pm_is_prime ct_is_prime : Value} {cd_is_prime : Value}
    {f_are_points : Addr} {od_are_points an_are_points : Option Addr} {sl_are_points : Array (Option Value)} {oc_are_points kV_are_points dc_are_points pm_are_points ct_are_points : Value} {cd_are_points : Value}
    {f_made_ground : Addr} {od_made_ground an_made_ground : Option Addr} {sl_made_ground : Array (Option Value)} {oc_made_ground kV_made_ground dc_made_ground pm_made_ground ct_made_ground : Value} {cd_made_ground : Value}
    {f_shelves : Addr} {od_shelves an_shelves : Option Addr} {sl_shelves : Array (Option Value)} {oc_shelves kV_shelves dc_shelves pm_shelves ct_shelves : Value} {cd_shelves : Value}
    {f_made_lengths : Addr} {od_made_lengths an_made_lengths : Option Addr} {sl_made_lengths : Array (Option Value)} {oc_made_lengths kV_made_lengths dc_made_lengths pm_made_lengths ct_made_lengths : Value} {cd_made_lengths : Value}
    {f_ways_left : Addr} {od_ways_left an_ways_left : Option Addr} {sl_ways_left : Array (Option Value)} {oc_ways_left kV_ways_left dc_ways_left pm_ways_left ct_ways_left : Value} {cd_ways_left : Value}
    {f_times : Addr} {od_times an_times : Option Addr} {sl_times : Array (Option Value)} {oc_times kV_times dc_times pm_times ct_times : Value} {cd_times : Value}
    {f_line : Addr} {od_line an_line : Option Addr} {sl_line : Array (Option Value)} {oc_line kV_line dc_line pm_line ct_line : Value} {cd_line : Value}
    {f_product : Addr} {od_product an_product : Option Addr} {sl_product : Array (Option Value)} {oc_product kV_product dc_product pm_product ct_product : Value} {cd_product : Value}
    {f_early : Addr} {od_early an_early : Option Addr} {sl_early : Array (Option Value)} {oc_early kV_early dc_early pm_early ct_early : Value} {cd_early : Value}
    {f_law : Addr} {od_law an_law : Option Addr} {sl_law : Array (Option Value)} {oc_law kV_law dc_law pm_law ct_law : Value} {cd_law : Value}
    {tk_MOST_CELLS : Tok}
    {tk_MOST_DEGREE : Tok}
    {tk_MOST_NUMBERS : Tok}
    {tk_MOST_PRIME : Tok}
    {tk_MOST_SHELVES : Tok}
    (aC_BadGround : PySem.W.nsIn K mainGlobals "BadGround" = some (some (.ref C_BadGround)))
    (lC_BadGround : K.lookup C_BadGround = some (excClassObj nm_BadGround q_BadGround C_BadGround N_BadGround bs_BadGround bm_BadGround true sn_BadGround sub_BadGround ab_BadGround col_BadGround dd_BadGround m0_BadGround m1_BadGround m2_BadGround m3_BadGround m5_BadGround "ValueError.__new__"))
    (rC_BadGround : PySem.HandSPX.refsVE bm_BadGround = true)
    (sa_BadGround : PySem.W.findIn K (.ref C_BadGround) "__setattr__" = some (some (.builtin "object.__setattr__")))
    (ga_BadGround : PySem.W.findIn K (.ref C_BadGround) "__getattribute__" = some (some (.builtin "BaseException.__getattribute__")))
    (gg_BadGround : PySem.W.findIn K (.ref C_BadGround) "__getattr__" = some none)
    (nw_BadGround : PySem.W.findIn K (.ref C_BadGround) "what" = some none)
    (kC_BadGround : PySem.W.keepIn K (.ref C_BadGround) = true)
    (eC_BadGround : PySem.W.subIn K (.ref C_BadGround) (.type "BaseException") = some true)
    (tC_BadGround : PySem.W.typeIn K (.ref C_BadGround) = some (.type "type"))
    (hC_BadGround : PySem.W.hasDictIn K C_BadGround = true)
    (iC_BadGround : PySem.W.findIn K (.ref C_BadGround) "__init__" = some (some (.ref fI)))
    (aC_BadLengths : PySem.W.nsIn K mainGlobals "BadLengths" = some (some (.ref C_BadLengths)))
    (lC_BadLengths : K.lookup C_BadLengths = some (excClassObj nm_BadLengths q_BadLengths C_BadLengths N_BadLengths bs_BadLengths bm_BadLengths true sn_BadLengths sub_BadLengths ab_BadLengths col_BadLengths dd_BadLengths m0_BadLengths m1_BadLengths m2_BadLengths m3_BadLengths m5_BadLengths "ValueError.__new__"))
    (rC_BadLengths : PySem.HandSPX.refsVE bm_BadLengths = true)
    (sa_BadLengths : PySem.W.findIn K (.ref C_BadLengths) "__setattr__" = some (some (.builtin "object.__setattr__")))
    (ga_BadLengths : PySem.W.findIn K (.ref C_BadLengths) "__getattribute__" = some (some (.builtin "BaseException.__getattribute__")))
    (gg_BadLengths : PySem.W.findIn K (.ref C_BadLengths) "__getattr__" = some none)
    (nw_BadLengths : PySem.W.findIn K (.ref C_BadLengths) "what" = some none)
    (kC_BadLengths : PySem.W.keepIn K (.ref C_BadLengths) = true)
    (eC_BadLengths : PySem.W.subIn K (.ref C_BadLengths) (.type "BaseException") = some true)
    (tC_BadLengths : PySem.W.typeIn K (.ref C_BadLengths) = some (.type "type"))
    (hC_BadLengths : PySem.W.hasDictIn K C_BadLengths = true)
    (iC_BadLengths : PySem.W.findIn K (.ref C_BadLengths) "__init__" = some (some (.ref fI)))
    (aC_TooMany : PySem.W.nsIn K mainGlobals "TooMany" = some (some (.ref C_TooMany)))
    (lC_TooMany : K.lookup C_TooMany = some (excClassObj nm_TooMany q_TooMany C_TooMany N_TooMany bs_TooMany bm_TooMany true sn_TooMany sub_TooMany ab_TooMany col_TooMany dd_TooMany m0_TooMany m1_TooMany m2_TooMany m3_TooMany m5_TooMany "ValueError.__new__"))
    (rC_TooMany : PySem.HandSPX.refsVE bm_TooMany = true)
    (sa_TooMany : PySem.W.findIn K (.ref C_TooMany) "__setattr__" = some (some (.builtin "object.__setattr__")))
    (ga_TooMany : PySem.W.findIn K (.ref C_TooMany) "__getattribute__" = some (some (.builtin "BaseException.__getattribute__")))
    (gg_TooMany : PySem.W.findIn K (.ref C_TooMany) "__getattr__" = some none)
    (nw_TooMany : PySem.W.findIn K (.ref C_TooMany) "what" = some none)
    (kC_TooMany : PySem.W.keepIn K (.ref C_TooMany) = true)
    (eC_TooMany : PySem.W.subIn K (.ref C_TooMany) (.type "BaseException") = some true)
    (tC_TooMany : PySem.W.typeIn K (.ref C_TooMany) = some (.type "type"))
    (hC_TooMany : PySem.W.hasDictIn K C_TooMany = true)
    (iC_TooMany : PySem.W.findIn K (.ref C_TooMany) "__init__" = some (some (.ref fI)))
    (tI : PySem.W.typeIn K (.ref fI) = some (.type "function"))
    (lI : K.lookup fI = some ⟨ocI, odI, .func (PySem.W.fnOf "__init__" "Refused.__init__" (defArgs (inClass (topS 1) 0)) (defBody (inClass (topS 1) 0)) (defScope (inClass (topS 1) 0)) .none kVI dcI pmI anI cdI ctI), slI⟩)
    (cI : PySem.W.codeIn K cdI "Refused.__init__" = true)
    (kI : PySem.W.keepIn K (.ref fI) = true)
    (a__law_pool : PySem.W.nsIn K mainGlobals "_law_pool" = some (some (.ref f__law_pool)))
    (l__law_pool : K.lookup f__law_pool = some ⟨oc__law_pool, od__law_pool, .func (PySem.W.fnOf "_law_pool" "_law_pool" (defArgs (topS 26)) (defBody (topS 26)) (defScope (topS 26)) .none kV__law_pool dc__law_pool pm__law_pool an__law_pool cd__law_pool ct__law_pool), sl__law_pool⟩)
    (c__law_pool : PySem.W.codeIn K cd__law_pool "_law_pool" = true)
    (k__law_pool : PySem.W.keepIn K (.ref f__law_pool) = true)
    (a__law_draw : PySem.W.nsIn K mainGlobals "_law_draw" = some (some (.ref f__law_draw)))
    (l__law_draw : K.lookup f__law_draw = some ⟨oc__law_draw, od__law_draw, .func (PySem.W.fnOf "_law_draw" "_law_draw" (defArgs (topS 27)) (defBody (topS 27)) (defScope (topS 27)) .none kV__law_draw dc__law_draw pm__law_draw an__law_draw cd__law_draw ct__law_draw), sl__law_draw⟩)
    (c__law_draw : PySem.W.codeIn K cd__law_draw "_law_draw" = true)
    (k__law_draw : PySem.W.keepIn K (.ref f__law_draw) = true)
    (a__law_turned : PySem.W.nsIn K mainGlobals "_law_turned" = some (some (.ref f__law_turned)))
    (l__law_turned : K.lookup f__law_turned = some ⟨oc__law_turned, od__law_turned, .func (PySem.W.fnOf "_law_turned" "_law_turned" (defArgs (topS 28)) (defBody (topS 28)) (defScope (topS 28)) .none kV__law_turned dc__law_turned pm__law_turned an__law_turned cd__law_turned ct__law_turned), sl__law_turned⟩)
    (c__law_turned : PySem.W.codeIn K cd__law_turned "_law_turned" = true)
    (k__law_turned : PySem.W.keepIn K (.ref f__law_turned) = true)
    (a__law_lengths : PySem.W.nsIn K mainGlobals "_law_lengths" = some (some (.ref f__law_lengths)))
    (l__law_lengths : K.lookup f__law_lengths = some ⟨oc__law_lengths, od__law_lengths, .func (PySem.W.fnOf "_law_lengths" "_law_lengths" (defArgs (topS 30)) (defBody (topS 30)) (defScope (topS 30)) .none kV__law_lengths dc__law_lengths pm__law_lengths an__law_lengths cd__law_lengths ct__law_lengths), sl__law_lengths⟩)
    (c__law_lengths : PySem.W.codeIn K cd__law_lengths "_law_lengths" = true)
    (k__law_lengths : PySem.W.keepIn K (.ref f__law_lengths) = true)
    (a__law_batch : PySem.W.nsIn K mainGlobals "_law_batch" = some (some (.ref f__law_batch)))
    (l__law_batch : K.lookup f__law_batch = some ⟨oc__law_batch, od__law_batch, .func (PySem.W.fnOf "_law_batch" "_law_batch" (defArgs (topS 29)) (defBody (topS 29)) (defScope (topS 29)) .none kV__law_batch dc__law_batch pm__law_batch an__law_batch cd__law_batch ct__law_batch), sl__law_batch⟩)
    (c__law_batch : PySem.W.codeIn K cd__law_batch "_law_batch" = true)
    (k__law_batch : PySem.W.keepIn K (.ref f__law_batch) = true)
    (a__law_written_out : PySem.W.nsIn K mainGlobals "_law_written_out" = some (some (.ref f__law_written_out)))
    (l__law_written_out : K.lookup f__law_written_out = some ⟨oc__law_written_out, od__law_written_out, .func (PySem.W.fnOf "_law_written_out" "_law_written_out" (defArgs (topS 31)) (defBody (topS 31)) (defScope (topS 31)) .none kV__law_written_out dc__law_written_out pm__law_written_out an__law_written_out cd__law_written_out ct__law_written_out), sl__law_written_out⟩)
    (c__law_written_out : PySem.W.codeIn K cd__law_written_out "_law_written_out" = true)
    (k__law_written_out : PySem.W.keepIn K (.ref f__law_written_out) = true)
    (a__law_begun : PySem.W.nsIn K mainGlobals "_law_begun" = some (some (.ref f__law_begun)))
    (l__law_begun : K.lookup f__law_begun = some ⟨oc__law_begun, od__law_begun, .func (PySem.W.fnOf "_law_begun" "_law_begun" (defArgs (topS 33)) (defBody (topS 33)) (defScope (topS 33)) .none kV__law_begun dc__law_begun pm__law_begun an__law_begun cd__law_begun ct__law_begun), sl__law_begun⟩)
    (c__law_begun : PySem.W.codeIn K cd__law_begun "_law_begun" = true)
    (k__law_begun : PySem.W.keepIn K (.ref f__law_begun) = true)
    (a__law_listed : PySem.W.nsIn K mainGlobals "_law_listed" = some (some (.ref f__law_listed)))
    (l__law_listed : K.lookup f__law_listed = some ⟨oc__law_listed, od__law_listed, .func (PySem.W.fnOf "_law_listed" "_law_listed" (defArgs (topS 32)) (defBody (topS 32)) (defScope (topS 32)) .none kV__law_listed dc__law_listed pm__law_listed an__law_listed cd__law_listed ct__law_listed), sl__law_listed⟩)
    (c__law_listed : PySem.W.codeIn K cd__law_listed "_law_listed" = true)
    (k__law_listed : PySem.W.keepIn K (.ref f__law_listed) = true)
    (a_is_whole : PySem.W.nsIn K mainGlobals "is_whole" = some (some (.ref f_is_whole)))
    (l_is_whole : K.lookup f_is_whole = some ⟨oc_is_whole, od_is_whole, .func (PySem.W.fnOf "is_whole" "is_whole" (defArgs (topS 7)) (defBody (topS 7)) (defScope (topS 7)) .none kV_is_whole dc_is_whole pm_is_whole an_is_whole cd_is_whole ct_is_whole), sl_is_whole⟩)
    (c_is_whole : PySem.W.codeIn K cd_is_whole "is_whole" = true)
    (k_is_whole : PySem.W.keepIn K (.ref f_is_whole) = true)
    (a_is_prime : PySem.W.nsIn K mainGlobals "is_prime" = some (some (.ref f_is_prime)))
    (l_is_prime : K.lookup f_is_prime = some ⟨oc_is_prime, od_is_prime, .func (PySem.W.fnOf "is_prime" "is_prime" (defArgs (topS 8)) (defBody (topS 8)) (defScope (topS 8)) .none kV_is_prime dc_is_prime pm_is_prime an_is_prime cd_is_prime ct_is_prime), sl_is_prime⟩)
    (c_is_prime : PySem.W.codeIn K cd_is_prime "is_prime" = true)
    (k_is_prime : PySem.W.keepIn K (.ref f_is_prime) = true)
    (a_are_points : PySem.W.nsIn K mainGlobals "are_points" = some (some (.ref f_are_points)))
    (l_are_points : K.lookup f_are_points = some ⟨oc_are_points, od_are_points, .func (PySem.W.fnOf "are_points" "are_points" (defArgs (topS 13)) (defBody (topS 13)) (defScope (topS 13)) .none kV_are_points dc_are_points pm_are_points an_are_points cd_are_points ct_are_points), sl_are_points⟩)
    (c_are_points : PySem.W.codeIn K cd_are_points "are_points" = true)
    (k_are_points : PySem.W.keepIn K (.ref f_are_points) = true)
    (a_made_ground : PySem.W.nsIn K mainGlobals "made_ground" = some (some (.ref f_made_ground)))
    (l_made_ground : K.lookup f_made_ground = some ⟨oc_made_ground, od_made_ground, .func (PySem.W.fnOf "made_ground" "made_ground" (defArgs (topS 14)) (defBody (topS 14)) (defScope (topS 14)) .none kV_made_ground dc_made_ground pm_made_ground an_made_ground cd_made_ground ct_made_ground), sl_made_ground⟩)
    (c_made_ground : PySem.W.codeIn K cd_made_ground "made_ground" = true)
    (k_made_ground : PySem.W.keepIn K (.ref f_made_ground) = true)
    (a_shelves : PySem.W.nsIn K mainGlobals "shelves" = some (some (.ref f_shelves)))
    (l_shelves : K.lookup f_shelves = some ⟨oc_shelves, od_shelves, .func (PySem.W.fnOf "shelves" "shelves" (defArgs (topS 15)) (defBody (topS 15)) (defScope (topS 15)) .none kV_shelves dc_shelves pm_shelves an_shelves cd_shelves ct_shelves), sl_shelves⟩)
    (c_shelves : PySem.W.codeIn K cd_shelves "shelves" = true)
    (k_shelves : PySem.W.keepIn K (.ref f_shelves) = true)
    (a_made_lengths : PySem.W.nsIn K mainGlobals "made_lengths" = some (some (.ref f_made_lengths)))
    (l_made_lengths : K.lookup f_made_lengths = some ⟨oc_made_lengths, od_made_lengths, .func (PySem.W.fnOf "made_lengths" "made_lengths" (defArgs (topS 16)) (defBody (topS 16)) (defScope (topS 16)) .none kV_made_lengths dc_made_lengths pm_made_lengths an_made_lengths cd_made_lengths ct_made_lengths), sl_made_lengths⟩)
    (c_made_lengths : PySem.W.codeIn K cd_made_lengths "made_lengths" = true)
    (k_made_lengths : PySem.W.keepIn K (.ref f_made_lengths) = true)
    (a_ways_left : PySem.W.nsIn K mainGlobals "ways_left" = some (some (.ref f_ways_left)))
    (l_ways_left : K.lookup f_ways_left = some ⟨oc_ways_left, od_ways_left, .func (PySem.W.fnOf "ways_left" "ways_left" (defArgs (topS 23)) (defBody (topS 23)) (defScope (topS 23)) .none kV_ways_left dc_ways_left pm_ways_left an_ways_left cd_ways_left ct_ways_left), sl_ways_left⟩)
    (c_ways_left : PySem.W.codeIn K cd_ways_left "ways_left" = true)
    (k_ways_left : PySem.W.keepIn K (.ref f_ways_left) = true)
    (a_times : PySem.W.nsIn K mainGlobals "times" = some (some (.ref f_times)))
    (l_times : K.lookup f_times = some ⟨oc_times, od_times, .func (PySem.W.fnOf "times" "times" (defArgs (topS 19)) (defBody (topS 19)) (defScope (topS 19)) .none kV_times dc_times pm_times an_times cd_times ct_times), sl_times⟩)
    (c_times : PySem.W.codeIn K cd_times "times" = true)
    (k_times : PySem.W.keepIn K (.ref f_times) = true)
    (a_line : PySem.W.nsIn K mainGlobals "line" = some (some (.ref f_line)))
    (l_line : K.lookup f_line = some ⟨oc_line, od_line, .func (PySem.W.fnOf "line" "line" (defArgs (topS 20)) (defBody (topS 20)) (defScope (topS 20)) .none kV_line dc_line pm_line an_line cd_line ct_line), sl_line⟩)
    (c_line : PySem.W.codeIn K cd_line "line" = true)
    (k_line : PySem.W.keepIn K (.ref f_line) = true)
    (a_product : PySem.W.nsIn K mainGlobals "product" = some (some (.ref f_product)))
    (l_product : K.lookup f_product = some ⟨oc_product, od_product, .func (PySem.W.fnOf "product" "product" (defArgs (topS 21)) (defBody (topS 21)) (defScope (topS 21)) .none kV_product dc_product pm_product an_product cd_product ct_product), sl_product⟩)
    (c_product : PySem.W.codeIn K cd_product "product" = true)
    (k_product : PySem.W.keepIn K (.ref f_product) = true)
    (a_early : PySem.W.nsIn K mainGlobals "early" = some (some (.ref f_early)))
    (l_early : K.lookup f_early = some ⟨oc_early, od_early, .func (PySem.W.fnOf "early" "early" (defArgs (topS 24)) (defBody (topS 24)) (defScope (topS 24)) .none kV_early dc_early pm_early an_early cd_early ct_early), sl_early⟩)
    (c_early : PySem.W.codeIn K cd_early "early" = true)
    (k_early : PySem.W.keepIn K (.ref f_early) = true)
    (a_law : PySem.W.nsIn K mainGlobals "law" = some (some (.ref f_law)))
    (l_law : K.lookup f_law = some ⟨oc_law, od_law, .func (PySem.W.fnOf "law" "law" (defArgs (topS 34)) (defBody (topS 34)) (defScope (topS 34)) .none kV_law dc_law pm_law an_law cd_law ct_law), sl_law⟩)
    (c_law : PySem.W.codeIn K cd_law "law" = true)
    (k_law : PySem.W.keepIn K (.ref f_law) = true)
    (b_bool : PySem.W.nsIn K mainGlobals "bool" = some none)
    (b_int : PySem.W.nsIn K mainGlobals "int" = some none)
    (b_isinstance : PySem.W.nsIn K mainGlobals "isinstance" = some none)
    (b_len : PySem.W.nsIn K mainGlobals "len" = some none)
    (b_list : PySem.W.nsIn K mainGlobals "list" = some none)
    (b_max : PySem.W.nsIn K mainGlobals "max" = some none)
    (b_min : PySem.W.nsIn K mainGlobals "min" = some none)
    (b_range : PySem.W.nsIn K mainGlobals "range" = some none)
    (b_set : PySem.W.nsIn K mainGlobals "set" = some none)
    (b_sorted : PySem.W.nsIn K mainGlobals "sorted" = some none)
    (b_sum : PySem.W.nsIn K mainGlobals "sum" = some none)
    (b_tuple : PySem.W.nsIn K mainGlobals "tuple" = some none)
    (b_zip : PySem.W.nsIn K mainGlobals "zip" = some none)
    (v_MOST_CELLS : PySem.W.nsIn K mainGlobals "MOST_CELLS" = some (some (.int 1024 tk_MOST_CELLS)))
    (v_MOST_DEGREE : PySem.W.nsIn K mainGlobals "MOST_DEGREE" = some (some (.int 98 tk_MOST_DEGREE)))
    (v_MOST_NUMBERS : PySem.W.nsIn K mainGlobals "MOST_NUMBERS" = some (some (.int 12 tk_MOST_NUMBERS)))
    (v_MOST_PRIME : PySem.W.nsIn K mainGlobals "MOST_PRIME" = some (some (.int 65521 tk_MOST_PRIME)))
    (v_MOST_SHELVES : PySem.W.nsIn K mainGlobals "MOST_SHELVES" = some (some (.int 8 tk_MOST_SHELVES))) :
    ∃ fd : FuncData, (∀ (s : Shared) (v : Value), BindsTo s fd ⟨[v], []⟩ [("_law_script", v)]) ∧ ∀ base : Heap, K.In base → base.Ns mainGlobals mg → FnOk P w K mg base (L2.CX P w) 8 fa fd ["_law_script"] (spLaw K) := by
  have e := hfa.symm.trans (PySem.W.mg_of X G a_law)
  cases e
  have T : Tx K mg := ⟨PySem.W.mg_none_of X G b_bool, PySem.W.mg_none_of X G b_int, PySem.W.mg_none_of X G b_isinstance, PySem.W.mg_none_of X G b_len, PySem.W.mg_none_of X G b_list, PySem.W.mg_none_of X G b_max, PySem.W.mg_none_of X G b_min, PySem.W.mg_none_of X G b_range, PySem.W.mg_none_of X G b_set, PySem.W.mg_none_of X G b_sorted, PySem.W.mg_none_of X G b_sum, PySem.W.mg_none_of X G b_tuple, PySem.W.mg_none_of X G b_zip, ⟨_, PySem.W.mg_of X G v_MOST_CELLS⟩, ⟨_, PySem.W.mg_of X G v_MOST_DEGREE⟩, ⟨_, PySem.W.mg_of X G v_MOST_NUMBERS⟩, ⟨_, PySem.W.mg_of X G v_MOST_PRIME⟩, ⟨_, PySem.W.mg_of X G v_MOST_SHELVES⟩⟩
  have F__law_pool := fun_mk (st := topS 26) l__law_pool c__law_pool k__law_pool
  have B__law_pool := F__law_pool.binds (ps := ["_law_script"]) fun _ _ _ _ _ _ us hl => match us, hl with | [_], _ => rfl
  have F__law_draw := fun_mk (st := topS 27) l__law_draw c__law_draw k__law_draw
  have B__law_draw := F__law_draw.binds (ps := ["_law_pool_here", "_law_many"]) fun _ _ _ _ _ _ us hl => match us, hl with | [_, _], _ => rfl
  have F__law_turned := fun_mk (st := topS 28) l__law_turned c__law_turned k__law_turned
  have B__law_turned := F__law_turned.binds (ps := ["_law_pool_here", "_law_many"]) fun _ _ _ _ _ _ us hl => match us, hl with | [_, _], _ => rfl
  have F__law_lengths := fun_mk (st := topS 30) l__law_lengths c__law_lengths k__law_lengths
  have B__law_lengths := F__law_lengths.binds (ps := ["_law_pool_here", "_law_ground", "_law_most"]) fun _ _ _ _ _ _ us hl => match us, hl with | [_, _, _], _ => rfl
  have F__law_batch := fun_mk (st := topS 29) l__law_batch c__law_batch k__law_batch
  have B__law_batch := F__law_batch.binds (ps := ["_law_pool_here", "_law_ground"]) fun _ _ _ _ _ _ us hl => match us, hl with | [_, _], _ => rfl
  have F__law_written_out := fun_mk (st := topS 31) l__law_written_out c__law_written_out k__law_written_out
  have B__law_written_out := F__law_written_out.binds (ps := ["_law_p", "_law_form", "_law_point"]) fun _ _ _ _ _ _ us hl => match us, hl with | [_, _, _], _ => rfl
  have F__law_begun := fun_mk (st := topS 33) l__law_begun c__law_begun k__law_begun
  have B__law_begun := F__law_begun.binds (ps := ["_law_ground", "_law_batch_here", "_law_lengths_here"]) fun _ _ _ _ _ _ us hl => match us, hl with | [_, _, _], _ => rfl
  have F__law_listed := fun_mk (st := topS 32) l__law_listed c__law_listed k__law_listed
  have B__law_listed := F__law_listed.binds (ps := ["_law_p", "_law_k"]) fun _ _ _ _ _ _ us hl => match us, hl with | [_, _], _ => rfl
  have F_is_whole := fun_mk (st := topS 7) l_is_whole c_is_whole k_is_whole
  have B_is_whole := F_is_whole.binds (ps := ["thing", "low", "high"]) fun _ _ _ _ _ _ us hl => match us, hl with | [_, _, _], _ => rfl
  have F_is_prime := fun_mk (st := topS 8) l_is_prime c_is_prime k_is_prime
  have B_is_prime := F_is_prime.binds (ps := ["n"]) fun _ _ _ _ _ _ us hl => match us, hl with | [_], _ => rfl
  have F_are_points := fun_mk (st := topS 13) l_are_points c_are_points k_are_points
  have B_are_points := F_are_points.binds (ps := ["p", "thing"]) fun _ _ _ _ _ _ us hl => match us, hl with | [_, _], _ => rfl
  have F_made_ground := fun_mk (st := topS 14) l_made_ground c_made_ground k_made_ground
  have B_made_ground := F_made_ground.binds (ps := ["thing"]) fun _ _ _ _ _ _ us hl => match us, hl with | [_], _ => rfl
  have F_shelves := fun_mk (st := topS 15) l_shelves c_shelves k_shelves
  have B_shelves := F_shelves.binds (ps := ["ground"]) fun _ _ _ _ _ _ us hl => match us, hl with | [_], _ => rfl
  have F_made_lengths := fun_mk (st := topS 16) l_made_lengths c_made_lengths k_made_lengths
  have B_made_lengths := F_made_lengths.binds (ps := ["ground", "thing"]) fun _ _ _ _ _ _ us hl => match us, hl with | [_, _], _ => rfl
  have F_ways_left := fun_mk (st := topS 23) l_ways_left c_ways_left k_ways_left
  have B_ways_left := F_ways_left.binds (ps := ["ground", "lengths"]) fun _ _ _ _ _ _ us hl => match us, hl with | [_, _], _ => rfl
  have F_times := fun_mk (st := topS 19) l_times c_times k_times
  have B_times := F_times.binds (ps := ["p", "f", "g"]) fun _ _ _ _ _ _ us hl => match us, hl with | [_, _, _], _ => rfl
  have F_line := fun_mk (st := topS 20) l_line c_line k_line
  have B_line := F_line.binds (ps := ["p", "point"]) fun _ _ _ _ _ _ us hl => match us, hl with | [_, _], _ => rfl
  have F_product := fun_mk (st := topS 21) l_product c_product k_product
  have B_product := F_product.binds (ps := ["ground", "lengths"]) fun _ _ _ _ _ _ us hl => match us, hl with | [_, _], _ => rfl
  have F_early := fun_mk (st := topS 24) l_early c_early k_early
  have B_early := F_early.binds (ps := ["ground", "lengths"]) fun _ _ _ _ _ _ us hl => match us, hl with | [_, _], _ => rfl
  have F_law := fun_mk (st := topS 34) l_law c_law k_law
  have B_law := F_law.binds (ps := ["_law_script"]) fun _ _ _ _ _ _ us hl => match us, hl with | [_], _ => rfl
  have FI := fun_mk (st := inClass (topS 1) 0) lI cI kI
  have BI := FI.binds (ps := ["self", "what"]) fun _ _ _ _ _ _ us hl => match us, hl with | [_, _], _ => rfl
  have SI : FnScope ["self", "what"] ["self", "what"] (defScope (inClass (topS 1) 0)) := ⟨rfl, rfl, rfl, by decide +kernel, rfl, by decide +kernel, by decide +kernel⟩
  refine ⟨PySem.W.fnOf "law" "law" (defArgs (topS 34)) (defBody (topS 34)) (defScope (topS 34)) .none kV_law dc_law pm_law an_law cd_law ct_law, fun s v => ?_, fun base hb gb => ?_⟩
  rotate_left
  · have E_BadGround : ErC P w K mg base "BadGround" := ⟨C_BadGround, fI, _, _, PySem.W.mg_of X G aC_BadGround, ⟨⟨_, _, _, _, _, _, _, _, _, _, _, _, _, _, _, lC_BadGround, rC_BadGround⟩, sa_BadGround, eC_BadGround, tC_BadGround, kC_BadGround⟩, iC_BadGround, tI, nw_BadGround, init_ok FI SI rfl rfl rfl, BI⟩
    have E_BadLengths : ErC P w K mg base "BadLengths" := ⟨C_BadLengths, fI, _, _, PySem.W.mg_of X G aC_BadLengths, ⟨⟨_, _, _, _, _, _, _, _, _, _, _, _, _, _, _, lC_BadLengths, rC_BadLengths⟩, sa_BadLengths, eC_BadLengths, tC_BadLengths, kC_BadLengths⟩, iC_BadLengths, tI, nw_BadLengths, init_ok FI SI rfl rfl rfl, BI⟩
    have E_TooMany : ErC P w K mg base "TooMany" := ⟨C_TooMany, fI, _, _, PySem.W.mg_of X G aC_TooMany, ⟨⟨_, _, _, _, _, _, _, _, _, _, _, _, _, _, _, lC_TooMany, rC_TooMany⟩, sa_TooMany, eC_TooMany, tC_TooMany, kC_TooMany⟩, iC_TooMany, tI, nw_TooMany, init_ok FI SI rfl rfl rfl, BI⟩
    have D__law_pool : Df P w K mg base 1 "_law_pool" 1 den__law_pool := ⟨_, _, _, ok__law_pool F__law_pool T , PySem.W.mg_of X G a__law_pool, k__law_pool, B__law_pool⟩
    have D__law_draw : Df P w K mg base 1 "_law_draw" 2 den__law_draw := ⟨_, _, _, ok__law_draw F__law_draw T , PySem.W.mg_of X G a__law_draw, k__law_draw, B__law_draw⟩
    have D__law_turned : Df P w K mg base 2 "_law_turned" 2 den__law_turned := ⟨_, _, _, ok__law_turned F__law_turned T D__law_draw, PySem.W.mg_of X G a__law_turned, k__law_turned, B__law_turned⟩
    have D__law_lengths : Df P w K mg base 2 "_law_lengths" 3 den__law_lengths := ⟨_, _, _, ok__law_lengths F__law_lengths T D__law_draw, PySem.W.mg_of X G a__law_lengths, k__law_lengths, B__law_lengths⟩
    have D__law_batch : Df P w K mg base 2 "_law_batch" 2 den__law_batch := ⟨_, _, _, ok__law_batch F__law_batch T D__law_draw, PySem.W.mg_of X G a__law_batch, k__law_batch, B__law_batch⟩
    have D__law_written_out : Df P w K mg base 1 "_law_written_out" 3 den__law_written_out := ⟨_, _, _, ok__law_written_out F__law_written_out T , PySem.W.mg_of X G a__law_written_out, k__law_written_out, B__law_written_out⟩
    have D__law_begun : Df P w K mg base 2 "_law_begun" 3 den__law_begun := ⟨_, _, _, ok__law_begun F__law_begun T D__law_written_out, PySem.W.mg_of X G a__law_begun, k__law_begun, B__law_begun⟩
    have D__law_listed : Df P w K mg base 1 "_law_listed" 2 den__law_listed := ⟨_, _, _, ok__law_listed F__law_listed T , PySem.W.mg_of X G a__law_listed, k__law_listed, B__law_listed⟩
    have D_is_whole : Df P w K mg base 1 "is_whole" 3 den_is_whole := ⟨_, _, _, ok_is_whole F_is_whole T , PySem.W.mg_of X G a_is_whole, k_is_whole, B_is_whole⟩
    have D_is_prime : Df P w K mg base 2 "is_prime" 1 den_is_prime := ⟨_, _, _, ok_is_prime F_is_prime T D_is_whole, PySem.W.mg_of X G a_is_prime, k_is_prime, B_is_prime⟩
    have D_are_points : Df P w K mg base 2 "are_points" 2 den_are_points := ⟨_, _, _, ok_are_points F_are_points T D_is_whole, PySem.W.mg_of X G a_are_points, k_are_points, B_are_points⟩
    have D_made_ground : Df P w K mg base 3 "made_ground" 1 den_made_ground := ⟨_, _, _, ok_made_ground F_made_ground T D_is_prime D_is_whole D_are_points E_BadGround, PySem.W.mg_of X G a_made_ground, k_made_ground, B_made_ground⟩
    have D_shelves : Df P w K mg base 4 "shelves" 1 den_shelves := ⟨_, _, _, ok_shelves F_shelves T D_made_ground, PySem.W.mg_of X G a_shelves, k_shelves, B_shelves⟩
    have D_made_lengths : Df P w K mg base 5 "made_lengths" 2 den_made_lengths := ⟨_, _, _, ok_made_lengths F_made_lengths T D_shelves D_is_whole E_BadLengths, PySem.W.mg_of X G a_made_lengths, k_made_lengths, B_made_lengths⟩
    have D_ways_left : Df P w K mg base 6 "ways_left" 2 den_ways_left := ⟨_, _, _, ok_ways_left F_ways_left T D_made_lengths, PySem.W.mg_of X G a_ways_left, k_ways_left, B_ways_left⟩
    have D_times : Df P w K mg base 1 "times" 3 den_times := ⟨_, _, _, ok_times F_times T , PySem.W.mg_of X G a_times, k_times, B_times⟩
    have D_line : Df P w K mg base 1 "line" 2 den_line := ⟨_, _, _, ok_line F_line T , PySem.W.mg_of X G a_line, k_line, B_line⟩
    have D_product : Df P w K mg base 6 "product" 2 den_product := ⟨_, _, _, ok_product F_product T D_made_ground D_made_lengths D_times D_line E_TooMany, PySem.W.mg_of X G a_product, k_product, B_product⟩
    have D_early : Df P w K mg base 7 "early" 2 den_early := ⟨_, _, _, ok_early F_early T D_ways_left D_made_ground D_product, PySem.W.mg_of X G a_early, k_early, B_early⟩
    exact law_imp (ok_law (P := P) (w := w) (base := base) F_law T D__law_pool D__law_draw D__law_turned D__law_lengths D__law_batch D__law_begun D__law_listed D_ways_left D_early) law_true
  · exact .of_eq rfl
end FSEnd
open PySem PySem.W PyProof.Rows
set_option maxRecDepth 100000 in
set_option maxHeartbeats 0 in
theorem PySem.Challenge.cw_firstsafe_k53_whole_known_early_holds : PySem.Challenge.rw_firstsafe_k53_whole_known_early.Holds := by
  w_on; o_law; k_head; (case hw => w_witness2)
  k_fill
  refine FS.law_walk (l := PySem.Challenge.rw_firstsafe_k53_whole_known_early) (k := 8) (x := "_law_script") rfl rfl ⟨rfl, by decide, by decide⟩ (fun w h Y => PySem.W.kIn_of Y) ?F
  case F =>
    intro w mg fa h KX G hmg
    refine' FSEnd.all_mk KX G hmg ?aC_BadGround ?lC_BadGround ?rC_BadGround ?sa_BadGround ?ga_BadGround ?gg_BadGround ?nw_BadGround ?kC_BadGround ?eC_BadGround ?tC_BadGround ?hC_BadGround ?iC_BadGround ?aC_BadLengths ?lC_BadLengths ?rC_BadLengths ?sa_BadLengths ?ga_BadLengths ?gg_BadLengths ?nw_BadLengths ?kC_BadLengths ?eC_BadLengths ?tC_BadLengths ?hC_BadLengths ?iC_BadLengths ?aC_TooMany ?lC_TooMany ?rC_TooMany ?sa_TooMany ?ga_TooMany ?gg_TooMany ?nw_TooMany ?kC_TooMany ?eC_TooMany ?tC_TooMany ?hC_TooMany ?iC_TooMany ?tI ?lI ?cI ?kI ?a__law_pool ?l__law_pool ?c__law_pool ?k__law_pool ?a__law_draw ?l__law_draw ?c__law_draw ?k__law_draw ?a__law_turned ?l__law_turned ?c__law_turned ?k__law_turned ?a__law_lengths ?l__law_lengths ?c__law_lengths ?k__law_lengths ?a__law_batch ?l__law_batch ?c__law_batch ?k__law_batch ?a__law_written_out ?l__law_written_out ?c__law_written_out ?k__law_written_out ?a__law_begun ?l__law_begun ?c__law_begun ?k__law_begun ?a__law_listed ?l__law_listed ?c__law_listed ?k__law_listed ?a_is_whole ?l_is_whole ?c_is_whole ?k_is_whole ?a_is_prime ?l_is_prime ?c_is_prime ?k_is_prime ?a_are_points ?l_are_points ?c_are_points ?k_are_points ?a_made_ground ?l_made_ground ?c_made_ground ?k_made_ground ?a_shelves ?l_shelves ?c_shelves ?k_shelves ?a_made_lengths ?l_made_lengths ?c_made_lengths ?k_made_lengths ?a_ways_left ?l_ways_left ?c_ways_left ?k_ways_left ?a_times ?l_times ?c_times ?k_times ?a_line ?l_line ?c_line ?k_line ?a_product ?l_product ?c_product ?k_product ?a_early ?l_early ?c_early ?k_early ?a_law ?l_law ?c_law ?k_law ?b_bool ?b_int ?b_isinstance ?b_len ?b_list ?b_max ?b_min ?b_range ?b_set ?b_sorted ?b_sum ?b_tuple ?b_zip ?v_MOST_CELLS ?v_MOST_DEGREE ?v_MOST_NUMBERS ?v_MOST_PRIME ?v_MOST_SHELVES
    (case aC_BadGround => k_is)
    (case lC_BadGround => k_is)
    (case rC_BadGround => decide +kernel)
    (case sa_BadGround => k_is)
    (case ga_BadGround => k_is)
    (case gg_BadGround => k_is)
    (case nw_BadGround => k_is)
    (case kC_BadGround => k_is)
    (case eC_BadGround => k_is)
    (case tC_BadGround => k_is)
    (case hC_BadGround => k_is)
    (case iC_BadGround => k_is)
    (case aC_BadLengths => k_is)
    (case lC_BadLengths => k_is)
    (case rC_BadLengths => decide +kernel)
    (case sa_BadLengths => k_is)
    (case ga_BadLengths => k_is)
    (case gg_BadLengths => k_is)
    (case nw_BadLengths => k_is)
    (case kC_BadLengths => k_is)
    (case eC_BadLengths => k_is)
    (case tC_BadLengths => k_is)
    (case hC_BadLengths => k_is)
    (case iC_BadLengths => k_is)
    (case aC_TooMany => k_is)
    (case lC_TooMany => k_is)
    (case rC_TooMany => decide +kernel)
    (case sa_TooMany => k_is)
    (case ga_TooMany => k_is)
    (case gg_TooMany => k_is)
    (case nw_TooMany => k_is)
    (case kC_TooMany => k_is)
    (case eC_TooMany => k_is)
    (case tC_TooMany => k_is)
    (case hC_TooMany => k_is)
    (case iC_TooMany => k_is)
    (case tI => k_is)
    (case lI => k_is)
    (case cI => k_is)
    (case kI => k_is)
    (case a__law_pool => k_is)
    (case l__law_pool => k_is)
    (case c__law_pool => k_is)
    (case k__law_pool => k_is)
    (case a__law_draw => k_is)
    (case l__law_draw => k_is)
    (case c__law_draw => k_is)
    (case k__law_draw => k_is)
    (case a__law_turned => k_is)
    (case l__law_turned => k_is)
    (case c__law_turned => k_is)
    (case k__law_turned => k_is)
    (case a__law_lengths => k_is)
    (case l__law_lengths => k_is)
    (case c__law_lengths => k_is)
    (case k__law_lengths => k_is)
    (case a__law_batch => k_is)
    (case l__law_batch => k_is)
    (case c__law_batch => k_is)
    (case k__law_batch => k_is)
    (case a__law_written_out => k_is)
    (case l__law_written_out => k_is)
    (case c__law_written_out => k_is)
    (case k__law_written_out => k_is)
    (case a__law_begun => k_is)
    (case l__law_begun => k_is)
    (case c__law_begun => k_is)
    (case k__law_begun => k_is)
    (case a__law_listed => k_is)
    (case l__law_listed => k_is)
    (case c__law_listed => k_is)
    (case k__law_listed => k_is)
    (case a_is_whole => k_is)
    (case l_is_whole => k_is)
    (case c_is_whole => k_is)
    (case k_is_whole => k_is)
    (case a_is_prime => k_is)
    (case l_is_prime => k_is)
    (case c_is_prime => k_is)
    (case k_is_prime => k_is)
    (case a_are_points => k_is)
    (case l_are_points => k_is)
    (case c_are_points => k_is)
    (case k_are_points => k_is)
    (case a_made_ground => k_is)
    (case l_made_ground => k_is)
    (case c_made_ground => k_is)
    (case k_made_ground => k_is)
    (case a_shelves => k_is)
    (case l_shelves => k_is)
    (case c_shelves => k_is)
    (case k_shelves => k_is)
    (case a_made_lengths => k_is)
    (case l_made_lengths => k_is)
    (case c_made_lengths => k_is)
    (case k_made_lengths => k_is)
    (case a_ways_left => k_is)
    (case l_ways_left => k_is)
    (case c_ways_left => k_is)
    (case k_ways_left => k_is)
    (case a_times => k_is)
    (case l_times => k_is)
    (case c_times => k_is)
    (case k_times => k_is)
    (case a_line => k_is)
    (case l_line => k_is)
    (case c_line => k_is)
    (case k_line => k_is)
    (case a_product => k_is)
    (case l_product => k_is)
    (case c_product => k_is)
    (case k_product => k_is)
    (case a_early => k_is)
    (case l_early => k_is)
    (case c_early => k_is)
    (case k_early => k_is)
    (case a_law => k_is)
    (case l_law => k_is)
    (case c_law => k_is)
    (case k_law => k_is)
    (case b_bool => k_is)
    (case b_int => k_is)
    (case b_isinstance => k_is)
    (case b_len => k_is)
    (case b_list => k_is)
    (case b_max => k_is)
    (case b_min => k_is)
    (case b_range => k_is)
    (case b_set => k_is)
    (case b_sorted => k_is)
    (case b_sum => k_is)
    (case b_tuple => k_is)
    (case b_zip => k_is)
    (case v_MOST_CELLS => k_is)
    (case v_MOST_DEGREE => k_is)
    (case v_MOST_NUMBERS => k_is)
    (case v_MOST_PRIME => k_is)
    (case v_MOST_SHELVES => k_is)
#print axioms PySem.Challenge.cw_firstsafe_k53_whole_known_early_holds
