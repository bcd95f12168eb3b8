import PyProof.Rows.All
import Wide.All
import OpenK.AllK
import Wide.FinOn
import HandS.ForMost
import HandS.ForExc
import HandS.Lambda
import HandS.TupAny
import HandS.TupMul
import HandS.Deep
import HandS.IsInst
import HandS.CallSlots
import HandS.Wide
import HandS.ExcInit
import HandS.Zip
import HandS.SetFor
import HandS.Iter
import KE.GoesEnum
import HandS.Conv
import HandS.Style
import KE.GoesZip
import KE.GoesMore
import HandS.TryMany
import KE.KExcIs
import KE.KIsAll
import HandS.EndTab
import KE.KTupSum
import KE.DataFind
import HandS.AnyAll
import PyProof.Rows.GenSrcRange
import HandS.GenOver
import HandS.GenList
import HandS.Strs
import HandS.SetBool
import HandS.SortKw
import HandS.NoneIn
import HandS.CallLocal
import KE.SortData
import PyProof.AutoSeq1
import PySem.Challenge.RW_firstsafe_k54_clerk_beside_another
import HandS.EndOwn
import HandS.ExcIs
set_option Elab.async false
set_option linter.all false
set_option maxRecDepth 100000
/-! FsBase: values as data, the abstract store, the relation to the hand layer's heap. -/
namespace FS
open PySem PySem.Spec L2
open LamX (TabS Tabs ExtN CodeO)
/-- a value as data: a list that nobody changes any more is data too; a shared list or object is a number -/
inductive PV where
  | non | bl (b : Bool) | int (i : Int) | str (x : Str) | tup (xs : List PV) | tuz (xs : List PV) | lst (xs : List PV) | scr (ns : List Int) | ref (n : Nat) | raw (v : V) | dic (ks : List Key) (xs : List PV)
/-- a name's place: no value, a value, a list that this frame alone holds, a caught error (its own dict at d) -/
inductive Slot where
  | none | val (p : PV) | own (xs : List PV) | exc (a d : Addr) (w : PV)
/-- a shared object -/
inductive SO where
  | lst (xs : List PV)
  | dct (lk : Bool) (kvs : List (Key × PV))
  | ins (c : Str) (fs : List (Str × PV))
abbrev Env := List Slot
abbrev Stt := List SO
/-- how a piece of code ends -/
inductive Out (α : Type) where
  | ok (a : α) (e : Env) (s : Stt)
  | raise (c : Str) (w : PV) (e : Env) (s : Stt)
  | bad
abbrev Cd (α : Type) := Env → Stt → Out α
def ret {α : Type} (a : α) : Cd α := fun e s => .ok a e s
def Out.bind {α β : Type} (o : Out α) (k : α → Cd β) : Out β := match o with
  | .ok a e s => k a e s
  | .raise c w e s => .raise c w e s
  | .bad => .bad
def bnd {α β : Type} (d : Cd α) (k : α → Cd β) : Cd β := fun e s => (d e s).bind k
/-- a partial function's value -/
def lift {α : Type} (o : Option α) : Cd α := fun e s => match o with
  | some a => .ok a e s
  | none => .bad
structure Wd where
  m : List Addr
  fz : Addr → Prop
  H : Hp
  T : List (Addr × Str)
abbrev noH : Hp := fun _ => none
/-- a tuple that has no dict -/
def Td (K : PySem.W.Frag) (G : Wd) (a : Addr) (vs : List V) : Prop := (G.fz a ∧ ∃ o : Obj, o.dict = none ∧ G.H a = some (.frz o (.tup vs))) ∨ (SqT K noH a vs ∧ ∀ o, K.lookup a = some o → o.dict = none)
mutual
inductive Rep (K : PySem.W.Frag) (G : Wd) : PV → V → Prop
  | non : Rep K G .non .non
  | bl (b : Bool) : Rep K G (.bl b) (.bl b)
  | int (i : Int) : Rep K G (.int i) (.int i)
  | str (x : Str) : Rep K G (.str x) (.str x)
  | tup {a : Addr} {vs : List V} {xs : List PV} : Td K G a vs → RepL K G xs vs → Rep K G (.tup xs) (.ref a)
  | tuz {a : Addr} {vs : List V} {xs : List PV} : G.fz a → G.H a = some (.tup vs) → RepL K G xs vs → Rep K G (.tuz xs) (.ref a)
  | lst {a : Addr} {vs : List V} {xs : List PV} : G.fz a → G.H a = some (.lst vs) → RepL K G xs vs → Rep K G (.lst xs) (.ref a)
  | scr {a : Addr} {ns : List Int} : ((G.fz a ∧ SqL K G.H a (ns.map V.int)) ∨ SqL K noH a (ns.map V.int)) → Rep K G (.scr ns) (.ref a)
  | ref {a : Addr} {n : Nat} : G.m[n]? = some a → Rep K G (.ref n) (.ref a)
  | raw (v : V) : Rep K G (.raw v) v
  | dic {a : Addr} {o : Obj} {vs : List V} {ks : List Key} {xs : List PV} : G.fz a → G.H a = some (.frz o (.dK (ks.zip vs))) → ks.length = vs.length → RepL K G xs vs → Rep K G (.dic ks xs) (.ref a)
inductive RepL (K : PySem.W.Frag) (G : Wd) : List PV → List V → Prop
  | nil : RepL K G [] []
  | cons {x : PV} {v : V} {xs : List PV} {vs : List V} : Rep K G x v → RepL K G xs vs → RepL K G (x :: xs) (v :: vs)
end
/-- later: what is frozen stands -/
structure Mon (G G' : Wd) : Prop where
  m : ∃ r, G'.m = G.m ++ r
  fz : ∀ a, G.fz a → G'.fz a ∧ G'.H a = G.H a
theorem Mon.refl (G : Wd) : Mon G G := ⟨⟨[], by simp⟩, fun a h => ⟨h, rfl⟩⟩
theorem Mon.trans {G1 G2 G3 : Wd} (a : Mon G1 G2) (b : Mon G2 G3) : Mon G1 G3 := by
  obtain ⟨r, e⟩ := a.m
  obtain ⟨r', e'⟩ := b.m
  refine ⟨⟨r ++ r', by rw [e', e, List.append_assoc]⟩, fun x h => ?_⟩
  obtain ⟨h1, e1⟩ := a.fz x h
  obtain ⟨h2, e2⟩ := b.fz x h1
  exact ⟨h2, e2.trans e1⟩
theorem Mon.at {G G' : Wd} (h : Mon G G') {n : Nat} {a : Addr} (e : G.m[n]? = some a) : G'.m[n]? = some a := by
  obtain ⟨r, q⟩ := h.m
  have hl : n < G.m.length := (List.getElem?_eq_some_iff.mp e).1
  rw [q, List.getElem?_append_left hl]
  exact e
theorem SqL.of_eq {K : PySem.W.Frag} {H H' : Hp} {a : Addr} {xs : List V} (e : H' a = H a) (h : SqL K H a xs) : SqL K H' a xs := by
  rcases h with (h | ⟨o, h⟩) | h
  · exact .inl (.inl (e.trans h))
  · exact .inl (.inr ⟨o, e.trans h⟩)
  · exact .inr h
mutual
theorem Rep.mono {K : PySem.W.Frag} {G G' : Wd} (M : Mon G G') : ∀ (p : PV) (v : V), Rep K G p v → Rep K G' p v
  | .non, _, h => by cases h; exact .non
  | .bl b, _, h => by cases h; exact .bl b
  | .int i, _, h => by cases h; exact .int i
  | .str x, _, h => by cases h; exact .str x
  | .tup xs, _, h => by
    cases h with
    | tup h r =>
      refine .tup ?_ (RepL.mono M xs _ r)
      rcases h with ⟨h1, o, h3, h2⟩ | h
      · obtain ⟨q1, q2⟩ := M.fz _ h1
        exact .inl ⟨q1, o, h3, q2.trans h2⟩
      · exact .inr h
  | .tuz xs, _, h => by
    cases h with
    | tuz h1 h2 r =>
      obtain ⟨q1, q2⟩ := M.fz _ h1
      exact .tuz q1 (q2.trans h2) (RepL.mono M xs _ r)
  | .lst xs, _, h => by
    cases h with
    | lst h1 h2 r =>
      obtain ⟨q1, q2⟩ := M.fz _ h1
      exact .lst q1 (q2.trans h2) (RepL.mono M xs _ r)
  | .scr ns, _, h => by
    cases h with
    | scr h =>
      rcases h with ⟨h1, h2⟩ | h
      · obtain ⟨q1, q2⟩ := M.fz _ h1
        exact .scr (.inl ⟨q1, SqL.of_eq q2 h2⟩)
      · exact .scr (.inr h)
  | .ref n, _, h => by
    cases h with
    | ref h => exact .ref (M.at h)
  | .raw v, _, h => by cases h; exact .raw v
  | .dic ks xs, _, h => by
    cases h with
    | dic h1 h2 hl r =>
      obtain ⟨q1, q2⟩ := M.fz _ h1
      exact .dic q1 (q2.trans h2) hl (RepL.mono M xs _ r)
theorem RepL.mono {K : PySem.W.Frag} {G G' : Wd} (M : Mon G G') : ∀ (ps : List PV) (vs : List V), RepL K G ps vs → RepL K G' ps vs
  | [], _, h => by cases h; exact .nil
  | x :: xs, _, h => by
    cases h with
    | cons h r => exact .cons (Rep.mono M x _ h) (RepL.mono M xs _ r)
end
section
variable {K : PySem.W.Frag} {G G' : Wd}
theorem Rep.mon {p : PV} {v : V} (h : Rep K G p v) (M : Mon G G') : Rep K G' p v := Rep.mono M p v h
theorem RepL.mon {p : List PV} {v : List V} (h : RepL K G p v) (M : Mon G G') : RepL K G' p v := RepL.mono M p v h
theorem RepL.length : ∀ {ps : List PV} {vs : List V}, RepL K G ps vs → ps.length = vs.length
  | _, _, .nil => rfl
  | _, _, .cons _ r => congrArg (· + 1) (RepL.length r)
theorem RepL.get : ∀ {ps : List PV} {vs : List V} {i : Nat} {p : PV}, RepL K G ps vs → ps[i]? = some p → ∃ v, vs[i]? = some v ∧ Rep K G p v
  | _, _, i, p, .nil, e => by simp at e
  | _, _, 0, p, .cons h _, e => by
    simp at e
    subst e
    exact ⟨_, rfl, h⟩
  | _, _, i + 1, p, .cons _ r, e => by
    obtain ⟨v, e', h⟩ := RepL.get (i := i) r (by simpa using e)
    exact ⟨v, by simpa using e', h⟩
theorem RepL.getV : ∀ {ps : List PV} {vs : List V} {i : Nat} {v : V}, RepL K G ps vs → vs[i]? = some v → ∃ p, ps[i]? = some p ∧ Rep K G p v
  | _, _, i, p, .nil, e => by simp at e
  | _, _, 0, p, .cons h _, e => by
    simp at e
    subst e
    exact ⟨_, rfl, h⟩
  | _, _, i + 1, p, .cons _ r, e => by
    obtain ⟨v, e', h⟩ := RepL.getV (i := i) r (by simpa using e)
    exact ⟨v, by simpa using e', h⟩
theorem RepL.append : ∀ {ps qs : List PV} {vs ws : List V}, RepL K G ps vs → RepL K G qs ws → RepL K G (ps ++ qs) (vs ++ ws)
  | _, _, _, _, .nil, r => r
  | _, _, _, _, .cons h t, r => .cons h (t.append r)
theorem RepL.take : ∀ {ps : List PV} {vs : List V} (n : Nat), RepL K G ps vs → RepL K G (ps.take n) (vs.take n)
  | _, _, 0, _ => by rw [List.take_zero, List.take_zero]; exact .nil
  | _, _, n + 1, .nil => .nil
  | _, _, n + 1, .cons h r => .cons h (r.take n)
theorem RepL.drop : ∀ {ps : List PV} {vs : List V} (n : Nat), RepL K G ps vs → RepL K G (ps.drop n) (vs.drop n)
  | _, _, 0, h => h
  | _, _, n + 1, .nil => .nil
  | _, _, n + 1, .cons _ r => r.drop n
theorem RepL.set : ∀ {ps : List PV} {vs : List V} (n : Nat) {p : PV} {v : V}, RepL K G ps vs → Rep K G p v → RepL K G (ps.set n p) (vs.set n v)
  | _, _, _, _, _, .nil, _ => .nil
  | _, _, 0, _, _, .cons _ r, q => .cons q r
  | _, _, n + 1, _, _, .cons h r, q => .cons h (r.set n q)
theorem RepL.erase : ∀ {ps : List PV} {vs : List V} (n : Nat), RepL K G ps vs → RepL K G (ps.eraseIdx n) (vs.eraseIdx n)
  | _, _, _, .nil => .nil
  | _, _, 0, .cons _ r => r
  | _, _, n + 1, .cons h r => .cons h (r.erase n)
theorem RepL.snoc {ps : List PV} {vs : List V} {p : PV} {v : V} (h : RepL K G ps vs) (q : Rep K G p v) : RepL K G (ps ++ [p]) (vs ++ [v]) := h.append (.cons q .nil)
theorem RepL.rep : ∀ (n : Nat) {ps : List PV} {vs : List V}, RepL K G ps vs → RepL K G (List.replicate n ps).flatten (List.replicate n vs).flatten
  | 0, _, _, _ => .nil
  | n + 1, ps, vs, h => by
    rw [List.replicate_succ, List.replicate_succ, List.flatten_cons, List.flatten_cons]
    exact h.append (RepL.rep n h)
theorem RepL.ints : ∀ (ns : List Int), RepL K G (ns.map PV.int) (ns.map V.int)
  | [] => .nil
  | n :: ns => .cons (.int n) (RepL.ints ns)
end
/-! ### the shared store, the frame -/
/-- an open dict, or one that is locked for good -/
def DkAt : Bool → List (Key × V) → Option HO → Prop
  | false, ks, h => h = some (.dK ks)
  | true, ks, h => ∃ o, h = some (.frz o (.dK ks))
def RepO (K : PySem.W.Frag) (G : Wd) : SO → Option HO → Prop
  | .lst xs, h => ∃ vs, h = some (.lst vs) ∧ RepL K G xs vs
  | .dct lk kvs, h => ∃ vs, DkAt lk ((kvs.map (·.1)).zip vs) h ∧ RepL K G (kvs.map (·.2)) vs
  | .ins c fs, h => ∃ C dx vs, PySem.W.nsIn K mainGlobals c = some (some (.ref C)) ∧ h = some (.ins C dx ((fs.map (·.1)).zip vs)) ∧ RepL K G (fs.map (·.2)) vs
structure RepS (K : PySem.W.Frag) (G : Wd) (S : Stt) : Prop where
  len : G.m.length = S.length
  nd : G.m.Nodup
  nf : ∀ a ∈ G.m, ¬ G.fz a
  ob : ∀ (i : Nat) (a : Addr) (o : SO), G.m[i]? = some a → S[i]? = some o → RepO K G o (G.H a)
def IsOwn (env : Env) (i : Nat) : Prop := ∃ xs, env[i]? = some (.own xs)
structure RepE (K : PySem.W.Frag) (G : Wd) (env : Env) (σ : St) : Prop where
  len : env.length = σ.length
  val : ∀ (i : Nat) (p : PV), env[i]? = some (.val p) → ∃ v, σ[i]? = some (some v) ∧ Rep K G p v
  own : ∀ (i : Nat) (xs : List PV), env[i]? = some (.own xs) → ∃ a vs, σ[i]? = some (some (.ref a)) ∧ G.H a = some (.lst vs) ∧ RepL K G xs vs ∧ ¬ G.fz a ∧ a ∉ G.m
  exc : ∀ (i : Nat) (a d : Addr) (w : PV), env[i]? = some (.exc a d w) → σ[i]? = some (some (.ref a)) ∧ G.fz d ∧ ∃ v, G.H d = some (.xd [(("what" : Str), v)]) ∧ Rep K G w v
  dis : ∀ (i j : Nat) (a : Addr), IsOwn env i → IsOwn env j → σ[i]? = some (some (.ref a)) → σ[j]? = some (some (.ref a)) → i = j
/-- no data stands there: nothing, or a code object's table -/
def Nu (H : Hp) (a : Addr) : Prop := H a = none ∨ ∃ ps, H a = some (.tbl ps)
/-- no table -/
def NT (o : HO) : Prop := ∀ ps, o ≠ .tbl ps
theorem Nu.no {H : Hp} {a : Addr} {o : HO} (h : Nu H a) (e : H a = some o) (n : NT o) : False := by
  rcases h with h | ⟨ps, h⟩
  · rw [h] at e; cases e
  · rw [h] at e; exact n ps (Option.some.inj e).symm
theorem nt_lst {vs : List V} : NT (.lst vs) := fun _ e => by cases e
theorem nt_dK {kvs : List (Key × V)} : NT (.dK kvs) := fun _ e => by cases e
theorem nt_ins {C dx : Addr} {fs : List (Str × V)} : NT (.ins C dx fs) := fun _ e => by cases e
theorem nt_frz {o : Obj} {u : HO} : NT (.frz o u) := fun _ e => by cases e
theorem tab_poke {H : Hp} {a : Addr} {vs vs' : List V} (e : H a = some (.lst vs)) {P : Addr} {q : Str} (t : TabS H P q) : TabS (upd H a (.lst vs')) P q := by
  obtain ⟨ps, h1, h2, h3⟩ := t
  refine ⟨ps, ?_, h2, fun pos cv h => ?_⟩
  · rw [upd_ne (fun z => by rw [z, e] at h1; cases h1)]
    exact h1
  · obtain ⟨c, e1, e2⟩ := h3 pos cv h
    refine ⟨c, e1, ?_⟩
    rw [upd_ne (fun z => by rw [z, e] at e2; cases e2)]
    exact e2
theorem nu_poke {H : Hp} {a c : Addr} {vs : List V} (h : Nu (upd H a (.lst vs)) c) : Nu H c := by
  have hne : c ≠ a := fun z => by subst z; exact h.no upd_same nt_lst
  rcases h with h | ⟨ps, h⟩
  · exact .inl (by rw [upd_ne hne] at h; exact h)
  · exact .inr ⟨ps, by rw [upd_ne hne] at h; exact h⟩
theorem tabs_poke {H : Hp} {a : Addr} {vs vs' : List V} (e : H a = some (.lst vs)) {T : List (Addr × Str)} (t : Tabs T H) : Tabs T (upd H a (.lst vs')) := fun p hp => tab_poke e (t p hp)
/-- what a call does to its caller's world -/
structure Ent (G0 G : Wd) : Prop where
  pre : ∃ r, G.m = G0.m ++ r
  new : ∀ a ∈ G.m, a ∈ G0.m ∨ Nu G0.H a
  fz : ∀ a, G0.fz a → G.fz a
  fzn : ∀ a, G.fz a → G0.fz a ∨ Nu G0.H a
  keep : ∀ a o, G0.H a = some o → NT o → a ∉ G0.m → G.H a = some o
  there : ∀ a, Nu G.H a → Nu G0.H a
  T : G.T = G0.T
  tb : Tabs G0.T G0.H → Tabs G0.T G.H
theorem Ent.refl (G : Wd) : Ent G G := ⟨⟨[], by simp⟩, fun _ h => .inl h, fun _ h => h, fun _ h => .inl h, fun _ _ h _ _ => h, fun _ h => h, rfl, fun h => h⟩
theorem Ent.trans {G0 G1 G2 : Wd} (a : Ent G0 G1) (b : Ent G1 G2) : Ent G0 G2 := by
  obtain ⟨r, e⟩ := a.pre
  obtain ⟨r', e'⟩ := b.pre
  refine ⟨⟨r ++ r', by rw [e', e, List.append_assoc]⟩, fun x h => ?_, fun x h => b.fz x (a.fz x h), fun x h => ?_, fun x o h hn hm => ?_, fun x h => a.there x (b.there x h), b.T.trans a.T, fun h => by
    have q := a.tb h
    rw [← a.T] at q ⊢
    exact b.tb q⟩
  · rcases b.new x h with h | h
    · exact a.new x h
    · exact .inr (a.there x h)
  · rcases b.fzn x h with h | h
    · exact a.fzn x h
    · exact .inr (a.there x h)
  · have h1 := a.keep x o h hn hm
    refine b.keep x o h1 hn fun h2 => ?_
    rcases a.new x h2 with h3 | h3
    · exact hm h3
    · exact h3.no h hn
/-- only new things -/
structure Ext (G G' : Wd) : Prop where
  T : G'.T = G.T
  m : G'.m = G.m
  fz : ∀ a, G.fz a → G'.fz a
  fzn : ∀ a, G'.fz a → G.fz a ∨ G.H a = none
  keep : ∀ a o, G.H a = some o → G'.H a = some o
theorem Ext.refl (G : Wd) : Ext G G := ⟨rfl, rfl, fun _ h => h, fun _ h => .inl h, fun _ _ h => h⟩
theorem Ext.there {G G' : Wd} (x : Ext G G') {a : Addr} (h : G'.H a = none) : G.H a = none := by
  cases e : G.H a with
  | none => rfl
  | some o => rw [x.keep a o e] at h; cases h
theorem Ext.trans {G G1 G2 : Wd} (a : Ext G G1) (b : Ext G1 G2) : Ext G G2 := by
  refine ⟨b.T.trans a.T, b.m.trans a.m, fun x h => b.fz x (a.fz x h), fun x h => ?_, fun x o h => b.keep x o (a.keep x o h)⟩
  rcases b.fzn x h with h | h
  · exact a.fzn x h
  · exact .inr (a.there h)
theorem Ext.nu {G G' : Wd} (x : Ext G G') {a : Addr} (h : Nu G'.H a) : Nu G.H a := by
  rcases h with h | ⟨ps, h⟩
  · exact .inl (x.there h)
  · cases e : G.H a with
    | none => exact .inl e
    | some o => rw [x.keep a o e] at h; exact .inr ⟨ps, by rw [e]; exact h⟩
theorem Ext.ent {G G' : Wd} (x : Ext G G') : Ent G G' :=
  ⟨⟨[], by rw [x.m]; simp⟩, fun a h => .inl (by rw [← x.m]; exact h), x.fz, fun a h => (x.fzn a h).imp id .inl, fun a o h _ _ => x.keep a o h, fun a h => x.nu h, x.T, fun h p hp => (h p hp).ext x.keep⟩
/-- what is frozen is there, and no table -/
def Sure (G : Wd) : Prop := ∀ a, G.fz a → ∃ o, G.H a = some o ∧ NT o
theorem Ext.mon {G G' : Wd} (x : Ext G G') (s : Sure G) : Mon G G' := ⟨⟨[], by rw [x.m]; simp⟩, fun a h => ⟨x.fz a h, by
  obtain ⟨o, e, _⟩ := s a h
  rw [e, x.keep a o e]⟩⟩
/-- a new thing, frozen -/
abbrev Wd.frozen (G : Wd) (a : Addr) (o : HO) : Wd := ⟨G.m, fun b => G.fz b ∨ b = a, upd G.H a o, G.T⟩
/-- a new thing, not frozen -/
abbrev Wd.fresh (G : Wd) (a : Addr) (o : HO) : Wd := ⟨G.m, G.fz, upd G.H a o, G.T⟩
theorem keepU {H : Hp} {a : Addr} {o : HO} (hn : H a = none) : ∀ b u, H b = some u → upd H a o b = some u := fun b u e => by
  rw [upd_ne (ne_of_none e hn)]
  exact e
theorem Ext.frozen {G : Wd} {a : Addr} {o : HO} (hn : G.H a = none) : Ext G (G.frozen a o) :=
  ⟨rfl, rfl, fun _ h => .inl h, fun b h => h.elim .inl fun e => .inr (by rw [e]; exact hn), keepU hn⟩
theorem Ext.fresh {G : Wd} {a : Addr} {o : HO} (hn : G.H a = none) : Ext G (G.fresh a o) :=
  ⟨rfl, rfl, fun _ h => h, fun b h => .inl h, keepU hn⟩
/-- the frame's state: G0 the world at the def's entry -/
structure At (K : PySem.W.Frag) (G0 G : Wd) (S : Stt) (env : Env) (σ : St) : Prop where
  st : RepS K G S
  en : RepE K G env σ
  ent : Ent G0 G
  mine : ∀ (i : Nat) (a : Addr), IsOwn env i → σ[i]? = some (some (.ref a)) → Nu G0.H a
  sure : Sure G
theorem RepO.mono {K : PySem.W.Frag} {G G' : Wd} (M : Mon G G') {o : SO} {h : Option HO} (r : RepO K G o h) : RepO K G' o h := by
  cases o with
  | lst xs => obtain ⟨vs, e, r⟩ := r; exact ⟨vs, e, r.mon M⟩
  | dct lk kvs => obtain ⟨vs, e, r⟩ := r; exact ⟨vs, e, r.mon M⟩
  | ins c fs => obtain ⟨C, dx, vs, e0, e, r⟩ := r; exact ⟨C, dx, vs, e0, e, r.mon M⟩
theorem RepO.some {K : PySem.W.Frag} {G : Wd} {o : SO} {h : Option HO} (r : RepO K G o h) : ∃ u, h = some u := by
  cases o with
  | lst xs => obtain ⟨vs, e, r⟩ := r; exact ⟨_, e⟩
  | dct lk kvs =>
    obtain ⟨vs, e, r⟩ := r
    cases lk with
    | false => exact ⟨_, e⟩
    | true => obtain ⟨o, e⟩ := e; exact ⟨_, e⟩
  | ins c fs => obtain ⟨C, dx, vs, _, e, _⟩ := r; exact ⟨_, e⟩
section
variable {K : PySem.W.Frag} {G0 G G' : Wd} {S S' : Stt} {env : Env} {σ : St}
theorem RepS.there (s : RepS K G S) {a : Addr} (h : a ∈ G.m) : ∃ u, G.H a = some u := by
  obtain ⟨i, hi⟩ := List.getElem?_of_mem h
  have hl : i < S.length := by rw [← s.len]; exact (List.getElem?_eq_some_iff.mp hi).1
  exact (s.ob i a S[i] hi (by simp [hl])).some
theorem RepS.ext (s : RepS K G S) (x : Ext G G') (M : Mon G G') : RepS K G' S := by
  refine ⟨by rw [x.m]; exact s.len, by rw [x.m]; exact s.nd, fun a h h' => ?_, fun i a o h1 h2 => ?_⟩
  · rw [x.m] at h
    rcases x.fzn a h' with q | q
    · exact s.nf a h q
    · obtain ⟨u, e⟩ := s.there h
      rw [q] at e; cases e
  · rw [x.m] at h1
    have q := s.ob i a o h1 h2
    obtain ⟨u, e⟩ := q.some
    rw [x.keep a u e, ← e]
    exact q.mono M
/-- the frame over a change that keeps the frozen and the frame's own -/
theorem RepE.over (r : RepE K G env σ) (M : Mon G G') (hk : ∀ (i : Nat) (a : Addr), IsOwn env i → σ[i]? = some (some (.ref a)) → G'.H a = G.H a ∧ ¬ G'.fz a ∧ a ∉ G'.m) : RepE K G' env σ := by
  refine ⟨r.len, fun i p e => ?_, fun i xs e => ?_, fun i a d w e => ?_, r.dis⟩
  · obtain ⟨v, e1, h⟩ := r.val i p e
    exact ⟨v, e1, h.mon M⟩
  · obtain ⟨a, vs, e1, e2, h, _, _⟩ := r.own i xs e
    obtain ⟨q1, q2, q3⟩ := hk i a ⟨xs, e⟩ e1
    exact ⟨a, vs, e1, q1.trans e2, h.mon M, q2, q3⟩
  · obtain ⟨e1, h1, v, e2, h2⟩ := r.exc i a d w e
    obtain ⟨q1, q2⟩ := M.fz d h1
    exact ⟨e1, q1, v, q2.trans e2, h2.mon M⟩
/-- .. over a call -/
theorem At.call (A : At K G0 G S env σ) (E : Ent G G') (M : Mon G G') (s : RepS K G' S') (su : Sure G') : At K G0 G' S' env σ := by
  refine ⟨s, A.en.over M fun i a ho e => ?_, A.ent.trans E, A.mine, su⟩
  obtain ⟨xs, ho⟩ := ho
  obtain ⟨b, vs, e1, e2, _, n1, n2⟩ := A.en.own i xs ho
  rw [e1] at e
  cases e
  refine ⟨by rw [e2]; exact E.keep _ _ e2 nt_lst n2, fun h => ?_, fun h => ?_⟩
  · rcases E.fzn _ h with h | h
    · exact n1 h
    · exact h.no e2 nt_lst
  · rcases E.new _ h with h | h
    · exact n2 h
    · exact h.no e2 nt_lst
theorem Ext.sure (x : Ext G G') (s : Sure G) (h : ∀ a, G'.fz a → G.fz a ∨ ∃ o, G'.H a = some o ∧ NT o) : Sure G' := fun a q => by
  rcases h a q with h | h
  · obtain ⟨o, e, n⟩ := s a h
    exact ⟨o, x.keep a o e, n⟩
  · exact h
/-- .. over new things -/
theorem At.ext (A : At K G0 G S env σ) (x : Ext G G') (su : Sure G') : At K G0 G' S env σ := A.call x.ent (x.mon A.sure) (A.st.ext x (x.mon A.sure)) su
theorem At.frozen {a : Addr} {o : HO} (A : At K G0 G S env σ) (hn : G.H a = none) (nt : NT o := by intro _ e; cases e) : At K G0 (G.frozen a o) S env σ :=
  A.ext (Ext.frozen hn) ((Ext.frozen hn).sure A.sure fun b h => h.elim .inl fun e => .inr ⟨o, by rw [e]; exact upd_same, nt⟩)
theorem At.fresh {a : Addr} {o : HO} (A : At K G0 G S env σ) (hn : G.H a = none) : At K G0 (G.fresh a o) S env σ :=
  A.ext (Ext.fresh hn) ((Ext.fresh hn).sure A.sure fun b h => .inl h)
end
/-! ### readings -/
structure Zx where
  K : PySem.W.Frag
  mg : Str → Option Value
  G0 : Wd
  W : WX
/-- what is wanted of a raising end -/
def PRaise (z : Zx) (G : Wd) (c : Str) (w : PV) (env : Env) (S : Stt) (σ : St) : Prop :=
  ∀ (G' : Wd) (cls : Value) (d : Addr) (v : V), Mon G G' → At z.K z.G0 G' S env σ → z.mg c = some cls → Nu z.G0.H d → G'.H d = some (.xd [(("what" : Str), v)]) → Rep z.K G' w v → z.W cls (some d) σ G'.H
/-- behind an expression -/
def Post (z : Zx) (G : Wd) (σ : St) (Q : VK) : Out PV → Prop
  | .ok p env S => ∀ (v : V) (G' : Wd), Mon G G' → At z.K z.G0 G' S env σ → Rep z.K G' p v → Q v G'.H
  | .raise c w env S => ∀ σ', PRaise z G c w env S σ'
  | .bad => False
/-- .. a test -/
def PostT (z : Zx) (G : Wd) (σ : St) (Q : Bool → Hp → Prop) : Out Bool → Prop
  | .ok b env S => ∀ (G' : Wd), Mon G G' → At z.K z.G0 G' S env σ → Q b G'.H
  | .raise c w env S => ∀ σ', PRaise z G c w env S σ'
  | .bad => False
/-- .. arguments -/
def PostA (z : Zx) (G : Wd) (σ : St) (Q : List V → Hp → Prop) : Out (List PV) → Prop
  | .ok ps env S => ∀ (vs : List V) (G' : Wd), Mon G G' → At z.K z.G0 G' S env σ → RepL z.K G' ps vs → Q vs G'.H
  | .raise c w env S => ∀ σ', PRaise z G c w env S σ'
  | .bad => False
/-- .. a list that nobody else holds -/
def PostF (z : Zx) (G : Wd) (σ : St) (Q : VK) : Out (List PV) → Prop
  | .ok xs env S => ∀ (a : Addr) (vs : List V) (G' : Wd), Mon G G' → At z.K z.G0 G' S env σ → RepL z.K G' xs vs → G'.H a = some (.lst vs) → ¬ G'.fz a → a ∉ G'.m → Nu z.G0.H a →
      (∀ i : Nat, IsOwn env i → σ[i]? ≠ some (some (.ref a))) → Q (.ref a) G'.H
  | .raise c w env S => ∀ σ', PRaise z G c w env S σ'
  | .bad => False
/-- a statement's end -/
inductive Flw where
  | next | ret (p : PV) | brk | cont
def PostS (z : Zx) (G : Wd) (D : Ends) : Out Flw → Prop
  | .ok .next env S => ∀ (σ' : St) (G' : Wd), Mon G G' → At z.K z.G0 G' S env σ' → D.nx σ' G'.H
  | .ok .brk env S => ∀ (σ' : St) (G' : Wd), Mon G G' → At z.K z.G0 G' S env σ' → D.bk σ' G'.H
  | .ok .cont env S => ∀ (σ' : St) (G' : Wd), Mon G G' → At z.K z.G0 G' S env σ' → D.ct σ' G'.H
  | .ok (.ret p) env S => ∀ (v : V) (σ' : St) (G' : Wd), Mon G G' → At z.K z.G0 G' S env σ' → Rep z.K G' p v → D.rt v G'.H
  | .raise c w env S => ∀ σ', PRaise z G c w env S σ'
  | .bad => False
def RE (z : Zx) (d : Cd PV) : TE := fun σ H Q => ∃ G env S, G.H = H ∧ At z.K z.G0 G S env σ ∧ Post z G σ Q (d env S)
def RT (z : Zx) (d : Cd Bool) : TT := fun σ H Q => ∃ G env S, G.H = H ∧ At z.K z.G0 G S env σ ∧ PostT z G σ Q (d env S)
def RA (z : Zx) (d : Cd (List PV)) : TA := fun σ H Q => ∃ G env S, G.H = H ∧ At z.K z.G0 G S env σ ∧ PostA z G σ Q (d env S)
def RF (z : Zx) (d : Cd (List PV)) : TE := fun σ H Q => ∃ G env S, G.H = H ∧ At z.K z.G0 G S env σ ∧ PostF z G σ Q (d env S)
def RS (z : Zx) (d : Cd Flw) : TS := fun D σ H => ∃ G env S, G.H = H ∧ At z.K z.G0 G S env σ ∧ PostS z G D (d env S)
theorem PRaise.later {z : Zx} {G G1 : Wd} {c : Str} {w : PV} {env : Env} {S : Stt} {σ : St} (h : PRaise z G c w env S σ) (M : Mon G G1) : PRaise z G1 c w env S σ :=
  fun G' cls d v m a e1 e0 e2 r => h G' cls d v (M.trans m) a e1 e0 e2 r
theorem Post.later {z : Zx} {G G1 : Wd} {σ : St} {Q : VK} {o : Out PV} (h : Post z G σ Q o) (M : Mon G G1) : Post z G1 σ Q o := by
  cases o with
  | ok p env S => exact fun v G' m a r => h v G' (M.trans m) a r
  | raise c w env S => exact fun σ' => (h σ').later M
  | bad => exact h
theorem PostT.later {z : Zx} {G G1 : Wd} {σ : St} {Q : Bool → Hp → Prop} {o : Out Bool} (h : PostT z G σ Q o) (M : Mon G G1) : PostT z G1 σ Q o := by
  cases o with
  | ok p env S => exact fun G' m a => h G' (M.trans m) a
  | raise c w env S => exact fun σ' => (h σ').later M
  | bad => exact h
theorem PostA.later {z : Zx} {G G1 : Wd} {σ : St} {Q : List V → Hp → Prop} {o : Out (List PV)} (h : PostA z G σ Q o) (M : Mon G G1) : PostA z G1 σ Q o := by
  cases o with
  | ok p env S => exact fun v G' m a r => h v G' (M.trans m) a r
  | raise c w env S => exact fun σ' => (h σ').later M
  | bad => exact h
theorem PostF.later {z : Zx} {G G1 : Wd} {σ : St} {Q : VK} {o : Out (List PV)} (h : PostF z G σ Q o) (M : Mon G G1) : PostF z G1 σ Q o := by
  cases o with
  | ok p env S => exact fun a vs G' m => h a vs G' (M.trans m)
  | raise c w env S => exact fun σ' => (h σ').later M
  | bad => exact h
theorem PostS.later {z : Zx} {G G1 : Wd} {D : Ends} {o : Out Flw} (h : PostS z G D o) (M : Mon G G1) : PostS z G1 D o := by
  cases o with
  | ok f env S =>
    cases f with
    | next => exact fun σ' G' m => h σ' G' (M.trans m)
    | brk => exact fun σ' G' m => h σ' G' (M.trans m)
    | cont => exact fun σ' G' m => h σ' G' (M.trans m)
    | ret p => exact fun v σ' G' m => h v σ' G' (M.trans m)
  | raise c w env S => exact fun σ' => (h σ').later M
  | bad => exact h
end FS
set_option Elab.async false
set_option linter.all false
set_option maxRecDepth 100000
/-! FsTupN: new tuples, known to the object: they have no dict. -/
namespace L2
open PySem PySem.Spec PyProof.Rows HT
theorem objN {P : Program} {w : World} {H : Hp} {h : Heap} {a : Addr} {xs : List V} {its : List Value} {o : Obj} (hz : xs.length ≤ sizeLine) (r : Vals xs its) (hg : h.get? a = some o) (hc : o.cls = .type "tuple") (hd : ∃ n, o.data = .seq its.toArray n) :
    ObjOk P w H h a (.frz o (.tup xs)) := ⟨hg, hz, its, r, o, hg, hc, hd⟩
section
variable {X : Cx} {e : Expr} {es : List Expr} {te : TE} {t : TA} {pos : Pos}
def tTupN (t : TA) : TE := fun σ H Q => t σ H fun xs H1 => xs.length ≤ sizeLine ∧ ∀ p o, H1 p = none → o.dict = none → Q (.ref p) (upd H1 p (.frz o (.tup xs)))
theorem pe_tupN {x1} (h : PA X es t) : PE X (.Tuple es x1 pos) (tTupN t) := by
  refine ⟨fun pins s σ H Q I hq => ?_⟩
  refine wpAny_Tuple_spliced (thn (h.run pos pins s σ H _ I hq) fun us s1 ⟨xs, H1, I1, r, z, q⟩ => ⟨by rw [← r.length]; exact z, ?_⟩)
  have hf : H1 s1.heap.objs.size = none := I1.hok.fresh (Nat.le_refl _)
  refine ⟨.ref s1.heap.objs.size, upd H1 s1.heap.objs.size (.frz _ (.tup xs)), I1.laid (t' := s1.toks) (fun b u e => Heap.get?_push_of_some _ e) (Nat.le_refl _) (objN (its := us) z r (Heap.get?_push_size _ rfl) rfl ⟨_, rfl⟩), rfl, q _ _ hf rfl⟩
/-- t + u -/
def rCatN (K : PySem.W.Frag) : R2 := fun x y H Q => ∃ a b xs ys, x = .ref a ∧ y = .ref b ∧ SqT K H a xs ∧ SqT K H b ys ∧ xs.length + ys.length ≤ sizeLine ∧
  (xs = [] → Q (.ref b) H) ∧ (xs ≠ [] → ys = [] → Q (.ref a) H) ∧ (xs ≠ [] → ys ≠ [] → ∀ p o, H p = none → o.dict = none → Q (.ref p) (upd H p (.frz o (.tup (xs ++ ys)))))
theorem op_catN : OpR X (binaryOp .Add) (rCatN X.K) := by
  intro pins s σ H x y v u Q I rx ry h
  obtain ⟨a, b, xs, ys, rfl, rfl, ha, hb, hz, q0, q1, q2⟩ := h
  cases rx
  cases ry
  obtain ⟨its, r1, p1, _⟩ := I.tuple ha
  obtain ⟨its2, r2, p2, _⟩ := I.tuple hb
  by_cases hx : xs = []
  · subst hx
    cases r1
    exact cat_tup0 p1 p2 ⟨.ref b, H, I, rfl, q0 rfl⟩
  · refine HT.cat_tup p1 p2 (fun z => hx (r1.nil_iff.mp z)) (fun z => ⟨.ref a, H, I, rfl, q1 hx (r2.nil_iff.mp z)⟩) (fun z => ?_) (by rw [← r1.length, ← r2.length]; exact hz)
    exact ⟨.ref s.heap.objs.size, _, I.laid (t' := s.toks) (o := .frz _ (.tup (xs ++ ys))) (fun b ob q => Heap.get?_push_of_some _ q) (Nat.le_refl _) (objN (by rw [List.length_append]; exact hz) (r1.append r2) (Heap.get?_push_size _ rfl) rfl ⟨_, rfl⟩), rfl,
      q2 hx (fun w => z (r2.nil_iff.mpr w)) _ _ (I.hok.fresh (Nat.le_refl _)) rfl⟩
/-- t[lo:hi]: the whole of it is t itself -/
def rSlN (K : PySem.W.Frag) : V → Option Int → Option Int → Hp → VK → Prop := fun x lo hi H Q => ∃ a xs, x = .ref a ∧ SqT K H a xs ∧
  (HT.sIx xs.length 0 lo = 0 ∧ HT.sIx xs.length xs.length hi = xs.length → Q (.ref a) H) ∧ (¬ (HT.sIx xs.length 0 lo = 0 ∧ HT.sIx xs.length xs.length hi = xs.length) → ∀ p o, H p = none → o.dict = none → Q (.ref p) (upd H p (.frz o (.tup (cutV xs lo hi)))))
theorem sl_tupN : SlR X (rSlN X.K) := by
  intro pins s σ H x v vl vu lo hi sl Q I rx hs pl pu h
  obtain ⟨a, xs, rfl, hx, q1, q2⟩ := h
  cases rx
  obtain ⟨its, r, ht, hz⟩ := I.tuple hx
  have hlen : its.toArray.size = xs.length := by rw [List.size_toArray]; exact r.length.symm
  by_cases hw : HT.sIx xs.length 0 lo = 0 ∧ HT.sIx xs.length xs.length hi = xs.length
  · refine ⟨"tuple", _, PyProof.Rows.slot_tuple_getitem.lookup, ht.typeIs, ?_⟩
    exact getItem_tuple_whole ht hs pl pu (by rw [hlen]; exact hw) ⟨.ref a, H, I, rfl, q1 hw⟩
  · refine ⟨"tuple", _, PyProof.Rows.slot_tuple_getitem.lookup, ht.typeIs, ?_⟩
    refine HT.getItem_tuple_cut ht hs pl pu (by rw [hlen]; exact hw) ?_ (by rw [hlen]; exact hz)
    rw [hlen]
    exact ⟨.ref s.heap.objs.size, _, I.laid (t' := s.toks) (o := .frz _ (.tup (cutV xs lo hi))) (fun b ob q => Heap.get?_push_of_some _ q) (Nat.le_refl _)
      (objN (Nat.le_trans (cutV_length xs lo hi) hz) ((r.drop (HT.sIx xs.length 0 lo)).take (HT.sIx xs.length xs.length hi - HT.sIx xs.length 0 lo)) (Heap.get?_push_size _ rfl) rfl ⟨_, rfl⟩), rfl, q2 hw _ _ (I.hok.fresh (Nat.le_refl _)) rfl⟩
theorem call_tuple_ofN : CallR X (.type "tuple") (fun xs H Q => ∃ p ys, xs = [.ref p] ∧ ((SqL X.K H p ys ∧ ∀ l o, H l = none → o.dict = none → Q (.ref l) (upd H l (.frz o (.tup ys)))) ∨ (SqT X.K H p ys ∧ Q (.ref p) H))) := by
  intro pins s σ H xs us Q I r h
  obtain ⟨p, ys, rfl, h⟩ := h
  obtain ⟨u, rfl, rx⟩ := vals1 r
  cases rx
  rcases h with ⟨hq, q⟩ | ⟨hq, q⟩
  · obtain ⟨its, r', pl, hz⟩ := I.list hq
    have hlen := r'.length
    refine call_tuple_list pl.isList (fun h' kp => ?_) (by simp only [List.size_toArray] <;> omega)
    have I1 : Inv X pins σ H { s with heap := h' } := I.kept (t' := s.toks) kp
    have I2 : Inv X pins σ (upd H h'.objs.size (.frz { cls := .type "tuple", data := .seq its.toArray } (.tup ys))) { s with heap := h'.push { cls := .type "tuple", data := .seq its.toArray } } :=
      I1.laid (t' := s.toks) (fun b o e => Heap.get?_push_of_some _ e) (Nat.le_refl _) (objN hz r' (Heap.get?_push_size _ rfl) rfl ⟨_, rfl⟩)
    exact ⟨.ref h'.objs.size, _, I2, rfl, q _ _ (I1.hok.fresh (Nat.le_refl _)) rfl⟩
  · obtain ⟨its, r', pl, hz⟩ := I.tuple hq
    exact call_tuple_same pl ⟨.ref p, H, I, rfl, q⟩
end
end L2
set_option Elab.async false
set_option linter.all false
set_option maxRecDepth 100000
/-! FsExpr: expressions. -/
namespace FS
open PySem PySem.Spec L2
/-! ### how ends compose -/
structure Lw (z : Zx) {β : Type} (F : Wd → Out β → Prop) : Prop where
  later : ∀ G G1 o, F G o → Mon G G1 → F G1 o
  rais : ∀ G c w e S, F G (.raise c w e S) → ∀ σ', PRaise z G c w e S σ'
  bad : ∀ G, F G .bad → False
section
variable {z : Zx} {σ : St}
theorem lwE {Q : VK} : Lw z (fun G o => Post z G σ Q o) := ⟨fun _ _ _ h m => h.later m, fun _ _ _ _ _ h => h, fun _ h => h⟩
theorem lwT {Q : Bool → Hp → Prop} : Lw z (fun G o => PostT z G σ Q o) := ⟨fun _ _ _ h m => h.later m, fun _ _ _ _ _ h => h, fun _ h => h⟩
theorem lwA {Q : List V → Hp → Prop} : Lw z (fun G o => PostA z G σ Q o) := ⟨fun _ _ _ h m => h.later m, fun _ _ _ _ _ h => h, fun _ h => h⟩
theorem lwF {Q : VK} : Lw z (fun G o => PostF z G σ Q o) := ⟨fun _ _ _ h m => h.later m, fun _ _ _ _ _ h => h, fun _ h => h⟩
theorem lwS {D : Ends} : Lw z (fun G o => PostS z G D o) := ⟨fun _ _ _ h m => h.later m, fun _ _ _ _ _ h => h, fun _ h => h⟩
section
variable {β : Type} {F : Wd → Out β → Prop} {G : Wd} {env : Env} {S : Stt}
theorem toE (L : Lw z F) {d : Cd PV} {k : PV → Cd β} {R : VK} (A : At z.K z.G0 G S env σ) (P : F G (bnd d k env S))
    (h : ∀ p env1 S1 v G1, Mon G G1 → At z.K z.G0 G1 S1 env1 σ → Rep z.K G1 p v → F G1 (k p env1 S1) → R v G1.H) : RE z d σ G.H R := by
  refine ⟨G, env, S, rfl, A, ?_⟩
  unfold bnd at P
  cases e : d env S with
  | ok p env1 S1 =>
    rw [e] at P
    exact fun v G1 m a r => h p env1 S1 v G1 m a r (L.later _ _ _ P m)
  | raise c w env1 S1 =>
    rw [e] at P
    exact L.rais _ _ _ _ _ P
  | bad =>
    rw [e] at P
    exact (L.bad _ P).elim
theorem toT (L : Lw z F) {d : Cd Bool} {k : Bool → Cd β} {R : Bool → Hp → Prop} (A : At z.K z.G0 G S env σ) (P : F G (bnd d k env S))
    (h : ∀ b env1 S1 G1, Mon G G1 → At z.K z.G0 G1 S1 env1 σ → F G1 (k b env1 S1) → R b G1.H) : RT z d σ G.H R := by
  refine ⟨G, env, S, rfl, A, ?_⟩
  unfold bnd at P
  cases e : d env S with
  | ok p env1 S1 =>
    rw [e] at P
    exact fun G1 m a => h p env1 S1 G1 m a (L.later _ _ _ P m)
  | raise c w env1 S1 =>
    rw [e] at P
    exact L.rais _ _ _ _ _ P
  | bad =>
    rw [e] at P
    exact (L.bad _ P).elim
theorem toA (L : Lw z F) {d : Cd (List PV)} {k : List PV → Cd β} {R : List V → Hp → Prop} (A : At z.K z.G0 G S env σ) (P : F G (bnd d k env S))
    (h : ∀ p env1 S1 v G1, Mon G G1 → At z.K z.G0 G1 S1 env1 σ → RepL z.K G1 p v → F G1 (k p env1 S1) → R v G1.H) : RA z d σ G.H R := by
  refine ⟨G, env, S, rfl, A, ?_⟩
  unfold bnd at P
  cases e : d env S with
  | ok p env1 S1 =>
    rw [e] at P
    exact fun v G1 m a r => h p env1 S1 v G1 m a r (L.later _ _ _ P m)
  | raise c w env1 S1 =>
    rw [e] at P
    exact L.rais _ _ _ _ _ P
  | bad =>
    rw [e] at P
    exact (L.bad _ P).elim
/-- a list that nobody else holds -/
structure Alone (z : Zx) (G : Wd) (env : Env) (σ : St) (a : Addr) (vs : List V) : Prop where
  at_ : G.H a = some (.lst vs)
  nf : ¬ G.fz a
  nm : a ∉ G.m
  n0 : Nu z.G0.H a
  no : ∀ i : Nat, IsOwn env i → σ[i]? ≠ some (some (.ref a))
theorem toF (L : Lw z F) {d : Cd (List PV)} {k : List PV → Cd β} {R : VK} (A : At z.K z.G0 G S env σ) (P : F G (bnd d k env S))
    (h : ∀ p env1 S1 a vs G1, Mon G G1 → At z.K z.G0 G1 S1 env1 σ → RepL z.K G1 p vs → Alone z G1 env1 σ a vs → F G1 (k p env1 S1) → R (.ref a) G1.H) : RF z d σ G.H R := by
  refine ⟨G, env, S, rfl, A, ?_⟩
  unfold bnd at P
  cases e : d env S with
  | ok p env1 S1 =>
    rw [e] at P
    exact fun a vs G1 m A1 r h1 h2 h3 h4 h5 => h p env1 S1 a vs G1 m A1 r ⟨h1, h2, h3, h4, h5⟩ (L.later _ _ _ P m)
  | raise c w env1 S1 =>
    rw [e] at P
    exact L.rais _ _ _ _ _ P
  | bad =>
    rw [e] at P
    exact (L.bad _ P).elim
end
/-! ### new things -/
section
variable {G : Wd} {env : Env} {S : Stt} {a : Addr} {vs : List V}
theorem At.alone (A : At z.K z.G0 G S env σ) (hn : G.H a = none) : Alone z (G.fresh a (.lst vs)) env σ a vs := by
  refine ⟨upd_same, fun h => ?_, fun h => ?_, A.ent.there a (.inl hn), fun i ho e => ?_⟩
  · obtain ⟨o, q, _⟩ := A.sure a h
    rw [hn] at q; cases q
  · obtain ⟨o, q⟩ := A.st.there h
    rw [hn] at q; cases q
  · obtain ⟨xs, ho⟩ := ho
    obtain ⟨b, ws, e1, e2, _⟩ := A.en.own i xs ho
    rw [e] at e1; cases e1
    rw [hn] at e2; cases e2
/-- a list is frozen -/
abbrev Wd.freeze (G : Wd) (a : Addr) : Wd := ⟨G.m, fun b => G.fz b ∨ b = a, G.H, G.T⟩
theorem mon_freeze : Mon G (G.freeze a) := ⟨⟨[], by simp⟩, fun b h => ⟨.inl h, rfl⟩⟩
theorem At.freeze (A : At z.K z.G0 G S env σ) (q : Alone z G env σ a vs) : At z.K z.G0 (G.freeze a) S env σ := by
  have M : Mon G (G.freeze a) := mon_freeze
  refine ⟨⟨A.st.len, A.st.nd, fun b hb h => ?_, fun i b o h1 h2 => (A.st.ob i b o h1 h2).mono M⟩, A.en.over M fun i b ho e => ⟨rfl, fun h => ?_, ?_⟩, ?_, A.mine, fun b h => ?_⟩
  · rcases h with h | h
    · exact A.st.nf b hb h
    · rw [h] at hb; exact q.nm hb
  · rcases h with h | h
    · obtain ⟨xs, ho⟩ := ho
      obtain ⟨c, ws, e1, _, _, n1, _⟩ := A.en.own i xs ho
      rw [e] at e1; cases e1
      exact n1 h
    · rw [h] at e
      exact q.no i ho e
  · obtain ⟨xs, ho⟩ := ho
    obtain ⟨c, ws, e1, _, _, _, n2⟩ := A.en.own i xs ho
    rw [e] at e1; cases e1
    exact n2
  · exact ⟨A.ent.pre, A.ent.new, fun b h => .inl (A.ent.fz b h), fun b h => h.elim (A.ent.fzn b) fun e => .inr (by rw [e]; exact q.n0), A.ent.keep, A.ent.there, A.ent.T, A.ent.tb⟩
  · rcases h with h | h
    · exact A.sure b h
    · exact ⟨_, by rw [h]; exact q.at_, nt_lst⟩
end
end
/-! ### judgements -/
section
variable {X : Cx} {z : Zx}
theorem _root_.L2.PE.imp {e : Expr} {t t' : TE} (h : PE X e t) (i : ∀ σ H Q, t' σ H Q → t σ H Q) : PE X e t' := ⟨fun pins s σ H Q I q => h.run pins s σ H Q I (i σ H Q q)⟩
theorem _root_.L2.PT.imp {e : Expr} {t t' : TT} (h : PT X e t) (i : ∀ σ H Q, t' σ H Q → t σ H Q) : PT X e t' := ⟨fun pins s σ H Q I q => h.run pins s σ H Q I (i σ H Q q)⟩
theorem _root_.L2.PA.imp {e : List Expr} {t t' : TA} (h : PA X e t) (i : ∀ σ H Q, t' σ H Q → t σ H Q) : PA X e t' := ⟨fun pos pins s σ H Q I q => h.run pos pins s σ H Q I (i σ H Q q)⟩
theorem _root_.L2.PS.imp {e : Stmt} {t t' : TS} (h : PS X e t) (i : ∀ D σ H, t' D σ H → t D σ H) : PS X e t' := ⟨fun pins s σ H D I q => h.run pins s σ H D I (i D σ H q)⟩
theorem _root_.L2.PSs.imp {e : List Stmt} {t t' : TS} (h : PSs X e t) (i : ∀ D σ H, t' D σ H → t D σ H) : PSs X e t' := ⟨fun pins s σ H D I q => h.run pins s σ H D I (i D σ H q)⟩
abbrev ME (X : Cx) (z : Zx) (e : Expr) (d : Cd PV) : Prop := PE X e (RE z d)
abbrev MT (X : Cx) (z : Zx) (e : Expr) (d : Cd Bool) : Prop := PT X e (RT z d)
abbrev MA (X : Cx) (z : Zx) (e : List Expr) (d : Cd (List PV)) : Prop := PA X e (RA z d)
abbrev MF (X : Cx) (z : Zx) (e : Expr) (d : Cd (List PV)) : Prop := PE X e (RF z d)
/-! ### names and constants -/
variable {pos p1 p2 : Pos}
theorem me_c {e : Expr} {v : V} {p : PV} (h : PE X e (tC v)) (hr : ∀ G, Rep z.K G p v) : ME X z e (ret p) :=
  h.imp fun σ H Q ⟨G, env, S, e, A, P⟩ => by
    subst e
    exact P v G (Mon.refl G) A (hr G)
theorem me_int {i : Int} {j} : ME X z (.Constant (.int i) j pos) (ret (.int i)) := me_c pe_int fun _ => .int i
theorem me_bl {b : Bool} {j} : ME X z (.Constant (.bool b) j pos) (ret (.bl b)) := me_c pe_bl fun _ => .bl b
theorem me_non {j} : ME X z (.Constant .none j pos) (ret .non) := me_c pe_non fun _ => .non
/-- a module's name: a constant, or a def or class as a value -/
theorem me_glob {x : Str} {v : V} {u : Value} {p : PV} (hm : X.mg x = some u) (r : RelV v u) (hr : ∀ G, Rep z.K G p v) (hg : Gl X x := by rfl) (hd : (x == ("__debug__" : Str)) = false := by decide) : ME X z (.Name x pos) (ret p) := me_c (pe_glob hg hm r hd) hr
theorem me_gint {x : Str} {i : Int} {t : Tok} (hm : X.mg x = some (.int i t)) (hg : Gl X x := by rfl) (hd : (x == ("__debug__" : Str)) = false := by decide) : ME X z (.Name x pos) (ret (.int i)) := me_glob (v := .int i) hm ⟨_, rfl⟩ (fun _ => .int i) hg hd
theorem me_ty {x : Str} {n : String} (hm : X.mg x = none) (hv : bootBuiltins x = some (.type n)) (hg : Gl X x := by rfl) (hn : x ≠ "__name__" := by decide) (hd : (x == ("__debug__" : Str)) = false := by decide) : ME X z (.Name x pos) (ret (.raw (.ty n))) :=
  me_c (pe_bltn (v := .ty n) hg hm hv rfl hn hd) fun _ => .raw _
/-! ### arguments, displays -/
def dNil : Cd (List PV) := ret []
def dCons (d : Cd PV) (r : Cd (List PV)) : Cd (List PV) := bnd d fun p => bnd r fun ps => ret (p :: ps)
theorem ma_nil : MA X z [] dNil := pa_nil.imp fun σ H Q ⟨G, env, S, e, A, P⟩ => by
  subst e
  exact P [] G (Mon.refl G) A .nil
theorem ma_cons {e : Expr} {es : List Expr} {d : Cd PV} {r : Cd (List PV)} (ha : ME X z e d) (hr : MA X z es r) (hs : starEach (e :: es) X.env = (false, eval e X.env) :: starEach es X.env := by rfl) : MA X z (e :: es) (dCons d r) := by
  refine (pa_cons ha hr hs).imp fun σ H Q ⟨G, env, S, e, A, P⟩ => ?_
  subst e
  exact toE lwA A P fun p env1 S1 v G1 m1 A1 r1 P1 => toA lwA A1 P1 fun ps env2 S2 vs G2 m2 A2 r2 P2 => P2 (v :: vs) G2 (Mon.refl _) A2 (.cons (r1.mon m2) r2)
def dTup (d : Cd (List PV)) : Cd PV := bnd d fun ps => if ps.length ≤ sizeLine then ret (.tup ps) else fun _ _ => .bad
theorem me_tup {es : List Expr} {d : Cd (List PV)} {x1} (h : MA X z es d) : ME X z (.Tuple es x1 pos) (dTup d) := by
  refine (pe_tupN h).imp fun σ H Q ⟨G, env, S, e, A, P⟩ => ?_
  subst e
  refine toA lwE A P fun ps env1 S1 vs G1 m1 A1 r1 P1 => ?_
  by_cases hl : ps.length ≤ sizeLine
  · rw [if_pos hl] at P1
    refine ⟨by rw [← r1.length]; exact hl, fun p o hn ho => ?_⟩
    have M : Mon G1 (G1.frozen p (.frz o (.tup vs))) := (Ext.frozen hn).mon A1.sure
    exact P1 _ _ M (A1.frozen hn) (.tup (.inl ⟨.inr rfl, o, ho, upd_same⟩) (r1.mon M))
  · rw [if_neg hl] at P1
    exact P1.elim
def dDisp (d : Cd (List PV)) : Cd (List PV) := bnd d fun ps => if ps.length ≤ sizeLine then ret ps else fun _ _ => .bad
theorem mf_disp {es : List Expr} {d : Cd (List PV)} (h : MA X z es d) : MF X z (.List es pos) (dDisp d) := by
  refine (pe_lst h).imp fun σ H Q ⟨G, env, S, e, A, P⟩ => ?_
  subst e
  refine toA lwF A P fun ps env1 S1 vs G1 m1 A1 r1 P1 => ?_
  by_cases hl : ps.length ≤ sizeLine
  · rw [if_pos hl] at P1
    refine ⟨by rw [← r1.length]; exact hl, fun p hn => ?_⟩
    have M : Mon G1 (G1.fresh p (.lst vs)) := (Ext.fresh hn).mon A1.sure
    have q := A1.alone (vs := vs) hn
    exact P1 p vs _ M (A1.fresh hn) (r1.mon M) q.at_ q.nf q.nm q.n0 q.no
  · rw [if_neg hl] at P1
    exact P1.elim
/-- a new list as a value: nobody changes it from here on -/
def dFrz (d : Cd (List PV)) : Cd PV := bnd d fun xs => ret (.lst xs)
theorem me_frz {e : Expr} {d : Cd (List PV)} (h : MF X z e d) : ME X z e (dFrz d) := by
  refine PE.imp h fun σ H Q ⟨G, env, S, e, A, P⟩ => ?_
  subst e
  exact toF lwE A P fun xs env1 S1 a vs G1 m1 A1 r1 al P1 => P1 (.ref a) (G1.freeze a) mon_freeze (A1.freeze al) (.lst (.inr rfl) al.at_ (r1.mon mon_freeze))
/-- a new shared list -/
def dNew (d : Cd (List PV)) : Cd PV := bnd d fun xs => fun e s => .ok (.ref s.length) e (s ++ [.lst xs])
theorem me_new {e : Expr} {d : Cd (List PV)} (h : MF X z e d) : ME X z e (dNew d) := by
  refine PE.imp h fun σ H Q ⟨G, env, S, e, A, P⟩ => ?_
  subst e
  refine toF lwE A P fun xs env1 S1 a vs G1 m1 A1 r1 al P1 => ?_
  have M : Mon G1 ⟨G1.m ++ [a], G1.fz, G1.H, G1.T⟩ := ⟨⟨[a], rfl⟩, fun b h => ⟨h, rfl⟩⟩
  refine P1 (.ref a) ⟨G1.m ++ [a], G1.fz, G1.H, G1.T⟩ M ⟨⟨?_, ?_, fun b hb h => ?_, fun i b o h1 h2 => ?_⟩, A1.en.over M fun i b ho e => ⟨rfl, ?_, fun hb => ?_⟩, ?_, A1.mine, A1.sure⟩ (.ref ?_)
  · simp [A1.st.len]
  · exact List.nodup_append.mpr ⟨A1.st.nd, by simp, fun b hb c hc e => al.nm (by
      have : c = a := by simpa using hc
      rw [← this, ← e]; exact hb)⟩
  · rcases List.mem_append.mp hb with hb | hb
    · exact A1.st.nf b hb h
    · have : b = a := by simpa using hb
      rw [this] at h; exact al.nf h
  · by_cases hi : i < G1.m.length
    · rw [List.getElem?_append_left hi] at h1
      rw [List.getElem?_append_left (by rw [← A1.st.len]; exact hi)] at h2
      exact (A1.st.ob i b o h1 h2).mono M
    · have hi2 : i = G1.m.length := by
        have := (List.getElem?_eq_some_iff.mp h1).1
        simp at this
        omega
      subst hi2
      rw [List.getElem?_append_right (Nat.le_refl _)] at h1
      rw [A1.st.len, List.getElem?_append_right (Nat.le_refl _)] at h2
      simp at h1 h2
      subst h1 h2
      exact ⟨vs, al.at_, r1.mon M⟩
  · obtain ⟨xs', ho⟩ := ho
    obtain ⟨c, ws, e1, _, _, n1, _⟩ := A1.en.own i xs' ho
    rw [e] at e1; cases e1
    exact n1
  · rcases List.mem_append.mp hb with hb | hb
    · obtain ⟨xs', ho⟩ := ho
      obtain ⟨c, ws, e1, _, _, _, n2⟩ := A1.en.own i xs' ho
      rw [e] at e1; cases e1
      exact n2 hb
    · have : b = a := by simpa using hb
      rw [this] at e
      exact al.no i ho e
  · obtain ⟨r, q⟩ := A1.ent.pre
    exact ⟨⟨r ++ [a], by show G1.m ++ [a] = _; rw [q, List.append_assoc]⟩, fun b hb => (List.mem_append.mp hb).elim (A1.ent.new b) fun h => .inr (by
      have : b = a := by simpa using h
      rw [this]; exact al.n0), A1.ent.fz, A1.ent.fzn, A1.ent.keep, A1.ent.there, A1.ent.T, A1.ent.tb⟩
  · show (G1.m ++ [a])[S1.length]? = some a
    rw [← A1.st.len]
    simp
/-! ### operators by values -/
/-- g is served by f: values in, a value out, new things at most -/
def OpD (X : Cx) (z : Zx) (g : Value → Value → Sem Value) (f : Stt → PV → PV → Option PV) : Prop :=
  ∃ r : R2, OpR X g r ∧ ∀ (G : Wd) (S : Stt) (p q w : PV) (x y : V) (Q : VK), f S p q = some w → RepS z.K G S → Sure G → Rep z.K G p x → Rep z.K G q y →
    (∀ v G', Ext G G' → Sure G' → Rep z.K G' w v → Q v G'.H) → r x y G.H Q
theorem OpD.or {g : Value → Value → Sem Value} {f f' : Stt → PV → PV → Option PV} (h : OpD X z g f) (h' : OpD X z g f') : OpD X z g (fun S p q => (f S p q).or (f' S p q)) := by
  obtain ⟨r, o, k⟩ := h
  obtain ⟨r', o', k'⟩ := h'
  refine ⟨_, o.or o', fun G S p q w x y Q e s su rp rq hq => ?_⟩
  replace e : (f S p q).or (f' S p q) = some w := e
  cases e1 : f S p q with
  | some w' =>
    rw [e1, Option.some_or] at e
    exact .inl (k G S p q w x y Q (by rw [e1, e]) s su rp rq hq)
  | none =>
    rw [e1, Option.none_or] at e
    exact .inr (k' G S p q w x y Q e s su rp rq hq)
def dOp (f : Stt → PV → PV → Option PV) (da db : Cd PV) : Cd PV := bnd da fun p => bnd db fun q => fun e s => match f s p q with
  | some w => .ok w e s
  | none => .bad
theorem re_op {g : Value → Value → Sem Value} {f : Stt → PV → PV → Option PV} {da db : Cd PV} {r : R2} {σ : St} {H : Hp} {Q : VK}
    (k : ∀ (G : Wd) (S : Stt) (p q w : PV) (x y : V) (Q : VK), f S p q = some w → RepS z.K G S → Sure G → Rep z.K G p x → Rep z.K G q y → (∀ v G', Ext G G' → Sure G' → Rep z.K G' w v → Q v G'.H) → r x y G.H Q)
    (h : RE z (dOp f da db) σ H Q) : tOp r (RE z da) (RE z db) σ H Q := by
  obtain ⟨G, env, S, e, A, P⟩ := h
  subst e
  refine toE lwE A P fun p env1 S1 x G1 m1 A1 r1 P1 => toE lwE A1 P1 fun q env2 S2 y G2 m2 A2 r2 P2 => ?_
  cases e : f S2 p q with
  | none => simp only [e] at P2; exact P2.elim
  | some w =>
    simp only [e] at P2
    exact k G2 S2 p q w x y Q e A2.st A2.sure (r1.mon m2) r2 fun v G' xx su rv => P2 v G' (xx.mon A2.sure) (A2.ext xx su) rv
variable {a b : Expr} {da db : Cd PV}
theorem me_op {op : Operator} {f : Stt → PV → PV → Option PV} (o : OpD X z (binaryOp op) f) (ha : ME X z a da) (hb : ME X z b db) : ME X z (.BinOp a op b pos) (dOp f da db) := by
  obtain ⟨r, o, k⟩ := o
  exact (pe_op o ha hb).imp fun σ H Q h => re_op (g := binaryOp op) k h
theorem me_cmp {op : CmpOp} {f : Stt → PV → PV → Option PV} (o : OpD X z (compareOp op) f) (ha : ME X z a da) (hb : ME X z b db) (hm : behindInMarks op b = false) : ME X z (.Compare a [op] [b] pos) (dOp f da db) := by
  obtain ⟨r, o, k⟩ := o
  exact (pe_cmpR o ha hb hm).imp fun σ H Q h => re_op (g := compareOp op) k h
/-- an answer as a truth -/
def asB : PV → Option Bool
  | .bl b => some b
  | _ => none
def dB (d : Cd PV) : Cd Bool := bnd d fun p => lift (asB p)
theorem asB_rep {p : PV} {b : Bool} {K : PySem.W.Frag} {G : Wd} {v : V} (h : asB p = some b) (r : Rep K G p v) : v = .bl b := by
  cases p with
  | bl c =>
    cases r
    have : c = b := Option.some.inj h
    rw [this]
  | _ => cases h
theorem rt_b {d : Cd PV} {σ : St} {H : Hp} {Q : Bool → Hp → Prop} (h : RT z (dB d) σ H Q) : RE z d σ H fun x H' => ∃ k, x = .bl k ∧ Q k H' := by
  obtain ⟨G, env, S, e, A, P⟩ := h
  subst e
  refine toE lwT A P fun p env1 S1 x G1 m1 A1 r1 P1 => ?_
  unfold lift at P1
  cases e : asB p with
  | none => simp only [e] at P1; exact P1.elim
  | some k =>
    simp only [e] at P1
    exact ⟨k, asB_rep e r1, P1 G1 (Mon.refl _) A1⟩
theorem mt_cmp {op : CmpOp} {f : Stt → PV → PV → Option PV} (o : OpD X z (compareOp op) f) (ha : ME X z a da) (hb : ME X z b db) (hm : behindInMarks op b = false) : MT X z (.Compare a [op] [b] pos) (dB (dOp f da db)) := by
  obtain ⟨r, o, k⟩ := o
  refine (pt_cmpR o ha hb hm).imp fun σ H Q h => ?_
  have h' := rt_b h
  exact re_op (g := compareOp op) k h'
/-- a < b < c -/
def dChain (f f' : Stt → PV → PV → Option PV) (da db dc : Cd PV) : Cd PV := bnd da fun p => bnd db fun q => fun e s => match f s p q with
  | some (.bl true) => bnd dc (fun r => fun e' s' => match f' s' q r with
    | some w => .ok w e' s'
    | none => .bad) e s
  | some (.bl false) => .ok (.bl false) e s
  | _ => .bad
theorem re_chain {g g' : Value → Value → Sem Value} {f f' : Stt → PV → PV → Option PV} {da db dc : Cd PV} {r r' : R2} {σ : St} {H : Hp} {Q : VK}
    (k : ∀ (G : Wd) (S : Stt) (p q w : PV) (x y : V) (Q : VK), f S p q = some w → RepS z.K G S → Sure G → Rep z.K G p x → Rep z.K G q y → (∀ v G', Ext G G' → Sure G' → Rep z.K G' w v → Q v G'.H) → r x y G.H Q)
    (k' : ∀ (G : Wd) (S : Stt) (p q w : PV) (x y : V) (Q : VK), f' S p q = some w → RepS z.K G S → Sure G → Rep z.K G p x → Rep z.K G q y → (∀ v G', Ext G G' → Sure G' → Rep z.K G' w v → Q v G'.H) → r' x y G.H Q)
    (h : RE z (dChain f f' da db dc) σ H Q) : tChain r r' (RE z da) (RE z db) (RE z dc) σ H Q := by
  obtain ⟨G, env, S, e, A, P⟩ := h
  subst e
  refine toE lwE A P fun p env1 S1 x G1 m1 A1 r1 P1 => toE lwE A1 P1 fun q env2 S2 y G2 m2 A2 r2 P2 => ?_
  cases e : f S2 p q with
  | none => simp only [e] at P2; exact P2.elim
  | some w =>
    simp only [e] at P2
    refine k G2 S2 p q w x y _ e A2.st A2.sure (r1.mon m2) r2 fun v G' xx su rv => ?_
    have M := xx.mon A2.sure
    have A3 := A2.ext xx su
    cases w with
    | bl c =>
      cases rv
      refine ⟨c, rfl, ?_⟩
      cases c with
      | false =>
        rw [if_neg Bool.false_ne_true]
        exact P2 (.bl false) G' M A3 (.bl false)
      | true =>
        rw [if_pos rfl]
        refine toE lwE A3 (P2.later M) fun t env4 S4 u G4 m4 A4 r4 P4 => ?_
        cases e' : f' S4 q t with
        | none => simp only [e'] at P4; exact P4.elim
        | some w' =>
          simp only [e'] at P4
          exact k' G4 S4 q t w' y u Q e' A4.st A4.sure ((r2.mon M).mon m4) r4 fun v G' xx su rv => P4 v G' (xx.mon A4.sure) (A4.ext xx su) rv
    | _ => exact P2.elim
theorem me_chain {c : Expr} {op op' : CmpOp} {f f' : Stt → PV → PV → Option PV} {dc : Cd PV} (o : OpD X z (compareOp op) f) (o' : OpD X z (compareOp op') f') (ha : ME X z a da) (hb : ME X z b db) (hc : ME X z c dc)
    (hm : lastMarks [op, op'] [b, c] = false := by with_unfolding_all rfl) : ME X z (.Compare a [op, op'] [b, c] pos) (dChain f f' da db dc) := by
  obtain ⟨r, o, k⟩ := o
  obtain ⟨r', o', k'⟩ := o'
  exact (pe_chain o o' ha hb hc hm).imp fun σ H Q h => re_chain (g := compareOp op) (g' := compareOp op') k k' h
theorem mt_chain {c : Expr} {op op' : CmpOp} {f f' : Stt → PV → PV → Option PV} {dc : Cd PV} (o : OpD X z (compareOp op) f) (o' : OpD X z (compareOp op') f') (ha : ME X z a da) (hb : ME X z b db) (hc : ME X z c dc)
    (hm : lastMarks [op, op'] [b, c] = false := by with_unfolding_all rfl) : MT X z (.Compare a [op, op'] [b, c] pos) (dB (dChain f f' da db dc)) := by
  obtain ⟨r, o, k⟩ := o
  obtain ⟨r', o', k'⟩ := o'
  refine (pt_chain o o' ha hb hc hm).imp fun σ H Q h => ?_
  exact re_chain (g := compareOp op) (g' := compareOp op') k k' (rt_b h)
/-! ### truth, and, or, not, if -/
/-- a value's truth -/
def tru (S : Stt) : PV → Option Bool
  | .non => some false
  | .bl b => some b
  | .int i => some (i != 0)
  | .tup xs => some (!xs.isEmpty)
  | .lst xs => some (!xs.isEmpty)
  | .scr ns => some (!ns.isEmpty)
  | .ref n => match S[n]? with
    | some (.lst xs) => some (!xs.isEmpty)
    | some (.dct _ _) => none
    | some (.ins _ _) => none
    | none => none
  | _ => none
theorem isEmpty_rep {K : PySem.W.Frag} {G : Wd} {ps : List PV} {vs : List V} (r : RepL K G ps vs) : ps.isEmpty = vs.isEmpty := by
  cases r <;> rfl
theorem sqT_any {K : PySem.W.Frag} {H : Hp} {a : Addr} {xs : List V} (h : SqT K noH a xs) : SqT K H a xs := by
  rcases h with (h | ⟨o, h⟩) | h
  · cases h
  · cases h
  · exact .inr h
theorem Td.sq {K : PySem.W.Frag} {G : Wd} {a : Addr} {vs : List V} (h : Td K G a vs) : SqT K G.H a vs := by
  rcases h with ⟨_, o, _, h⟩ | h
  · exact .inl (.inr ⟨o, h⟩)
  · exact sqT_any h.1
theorem Td.mon {K : PySem.W.Frag} {G G1 : Wd} (M : Mon G G1) {a : Addr} {vs : List V} (h : Td K G a vs) : Td K G1 a vs := by
  rcases h with ⟨h1, o, h3, h2⟩ | h
  · obtain ⟨q1, q2⟩ := M.fz _ h1
    exact .inl ⟨q1, o, h3, q2.trans h2⟩
  · exact .inr h
theorem Rep.sqT {K : PySem.W.Frag} {G : Wd} {xs : List PV} {v : V} (r : Rep K G (.tup xs) v) : ∃ a vs, v = .ref a ∧ SqT K G.H a vs ∧ RepL K G xs vs := by
  cases r with
  | tup h r =>
    exact ⟨_, _, rfl, h.sq, r⟩
theorem Rep.sqZ {K : PySem.W.Frag} {G : Wd} {xs : List PV} {v : V} (r : Rep K G (.tuz xs) v) : ∃ a vs, v = .ref a ∧ SqT K G.H a vs ∧ RepL K G xs vs := by
  cases r with
  | tuz _ h r => exact ⟨_, _, rfl, SqT.of h, r⟩
theorem Rep.sqL {K : PySem.W.Frag} {G : Wd} {xs : List PV} {v : V} (r : Rep K G (.lst xs) v) : ∃ a vs, v = .ref a ∧ G.H a = some (.lst vs) ∧ RepL K G xs vs := by
  cases r with
  | lst _ h r => exact ⟨_, _, rfl, h, r⟩
theorem Rep.sqR {K : PySem.W.Frag} {G : Wd} {S : Stt} {n : Nat} {xs : List PV} {v : V} (r : Rep K G (.ref n) v) (s : RepS K G S) (e : S[n]? = some (.lst xs)) : ∃ a vs, v = .ref a ∧ G.m[n]? = some a ∧ G.H a = some (.lst vs) ∧ RepL K G xs vs := by
  cases r with
  | ref h =>
    obtain ⟨vs, e1, r1⟩ := s.ob _ _ _ h e
    exact ⟨_, vs, rfl, h, e1, r1⟩
theorem sqL_any {K : PySem.W.Frag} {H : Hp} {a : Addr} {xs : List V} (h : SqL K noH a xs) : SqL K H a xs := by
  rcases h with (h | ⟨o, h⟩) | h
  · cases h
  · cases h
  · exact .inr h
theorem Rep.scrM {K : PySem.W.Frag} {G : Wd} {ns : List Int} {v : V} (r : Rep K G (.scr ns) v) : ∃ a, v = .ref a ∧ ∀ G1, Mon G G1 → SqL K G1.H a (ns.map V.int) := by
  cases r with
  | scr h =>
    refine ⟨_, rfl, fun G1 M => ?_⟩
    rcases h with ⟨h1, h2⟩ | h
    · exact SqL.of_eq (M.fz _ h1).2 h2
    · exact sqL_any h
theorem Rep.sqS {K : PySem.W.Frag} {G : Wd} {ns : List Int} {v : V} (r : Rep K G (.scr ns) v) : ∃ a, v = .ref a ∧ SqL K G.H a (ns.map V.int) := by
  obtain ⟨a, e, h⟩ := r.scrM
  exact ⟨a, e, h G (Mon.refl G)⟩
theorem tru_rep {K : PySem.W.Frag} {G : Wd} {S : Stt} {p : PV} {v : V} {k : Bool} (h : tru S p = some k) (s : RepS K G S) (r : Rep K G p v) : TruV K v G.H k := by
  cases p with
  | non => cases r; exact (Option.some.inj h).symm
  | bl b => cases r; exact (Option.some.inj h).symm
  | int i => cases r; exact (Option.some.inj h).symm
  | str x => cases h
  | tup xs =>
    obtain ⟨a, vs, rfl, q, r'⟩ := r.sqT
    exact .inr (.inl ⟨vs, q, by rw [← isEmpty_rep r']; exact (Option.some.inj h).symm⟩)
  | lst xs =>
    obtain ⟨a, vs, rfl, q, r'⟩ := r.sqL
    exact .inl ⟨vs, SqL.of q, by rw [← isEmpty_rep r']; exact (Option.some.inj h).symm⟩
  | scr ns =>
    obtain ⟨a, rfl, q⟩ := r.sqS
    refine .inl ⟨_, q, ?_⟩
    rw [← Option.some.inj h]
    cases ns <;> rfl
  | ref n =>
    unfold tru at h
    cases e : S[n]? with
    | none => simp only [e] at h; cases h
    | some o =>
      cases o with
      | lst xs =>
        simp only [e] at h
        obtain ⟨a, vs, rfl, _, q, r'⟩ := r.sqR s e
        exact .inl ⟨vs, SqL.of q, by rw [← isEmpty_rep r']; exact (Option.some.inj h).symm⟩
      | dct lk kvs => simp only [e] at h; cases h
      | ins c fs => simp only [e] at h; cases h
  | raw v => cases h
  | dic ks xs => cases h
  | tuz xs => cases h
def dTru (d : Cd PV) : Cd Bool := bnd d fun p => fun e s => match tru s p with
  | some b => .ok b e s
  | none => .bad
theorem mt_tru {e : Expr} {d : Cd PV} (h : ME X z e d) (hK : z.K = X.K := by rfl) (he : ∀ whole, isTrue e X.env whole = (do let v ← whole; standAt e.pos; holding [v] (truthy v)) := by intro _; rfl) : MT X z e (dTru d) := by
  refine (pt_truth h he).imp fun σ H Q ⟨G, env, S, e, A, P⟩ => ?_
  subst e
  refine toE lwT A P fun p env1 S1 x G1 m1 A1 r1 P1 => ?_
  cases e : tru S1 p with
  | none => simp only [e] at P1; exact P1.elim
  | some k =>
    simp only [e] at P1
    exact ⟨k, by rw [← hK]; exact tru_rep e A1.st r1, P1 G1 (Mon.refl _) A1⟩
def dNotT (d : Cd Bool) : Cd Bool := bnd d fun b => ret (!b)
def dAndT (d r : Cd Bool) : Cd Bool := bnd d fun b => if b = true then r else ret false
def dOrT (d r : Cd Bool) : Cd Bool := bnd d fun b => if b = true then ret true else r
theorem mt_not {d : Cd Bool} (h : MT X z a d) : MT X z (.UnaryOp .Not a pos) (dNotT d) :=
  (pt_not h).imp fun σ H Q ⟨G, env, S, e, A, P⟩ => by
    subst e
    exact toT lwT A P fun b env1 S1 G1 m1 A1 P1 => P1 G1 (Mon.refl _) A1
abbrev MW (X : Cx) (z : Zx) (e : Expr) (d : Cd Bool) : Prop := PW X e (RT z d)
theorem _root_.L2.PW.imp {e : Expr} {t t' : TT} (h : PW X e t) (i : ∀ σ H Q, t' σ H Q → t σ H Q) : PW X e t' := ⟨fun wh pins s σ H Q I q => h.run wh pins s σ H Q I (i σ H Q q)⟩
theorem mw_and1 {d : Cd Bool} (h : MT X z a d) : MW X z (.BoolOp .And [a] pos) d := pw_and1 h
theorem mw_or1 {d : Cd Bool} (h : MT X z a d) : MW X z (.BoolOp .Or [a] pos) d := pw_or1 h
theorem mw_and {rest : List Expr} {d r : Cd Bool} (h : MT X z a d) (hr : MW X z (.BoolOp .And (b :: rest) pos) r) : MW X z (.BoolOp .And (a :: b :: rest) pos) (dAndT d r) :=
  (pw_and h hr).imp fun σ H Q ⟨G, env, S, e, A, P⟩ => by
    subst e
    refine toT lwT A P fun k env1 S1 G1 m1 A1 P1 => ?_
    cases k with
    | true => exact ⟨G1, env1, S1, rfl, A1, P1⟩
    | false => exact P1 G1 (Mon.refl _) A1
theorem mw_or {rest : List Expr} {d r : Cd Bool} (h : MT X z a d) (hr : MW X z (.BoolOp .Or (b :: rest) pos) r) : MW X z (.BoolOp .Or (a :: b :: rest) pos) (dOrT d r) :=
  (pw_or h hr).imp fun σ H Q ⟨G, env, S, e, A, P⟩ => by
    subst e
    refine toT lwT A P fun k env1 S1 G1 m1 A1 P1 => ?_
    cases k with
    | true => exact P1 G1 (Mon.refl _) A1
    | false => exact ⟨G1, env1, S1, rfl, A1, P1⟩
theorem mt_w {e : Expr} {d : Cd Bool} (h : MW X z e d) : MT X z e d := PW.pt h
/-- .. as values: all but the last True or False -/
def dAndV (d r : Cd PV) : Cd PV := bnd (dB d) fun b => if b = true then r else ret (.bl false)
def dOrV (d r : Cd PV) : Cd PV := bnd (dB d) fun b => if b = true then ret (.bl true) else r
theorem me_one {op} {d : Cd PV} (h : ME X z a d) : ME X z (.BoolOp op [a] pos) d := pe_one h
theorem bnd_assoc {α β γ : Type} (d : Cd α) (k : α → Cd β) (l : β → Cd γ) : bnd (bnd d k) l = bnd d fun a => bnd (k a) l := by
  funext e s
  unfold bnd
  cases d e s <;> rfl
theorem toB {β : Type} {F : Wd → Out β → Prop} {G : Wd} {env : Env} {S : Stt} {σ : St} (L : Lw z F) {d : Cd PV} {k : Bool → Cd β} {R : VK} (A : At z.K z.G0 G S env σ) (P : F G (bnd (dB d) k env S))
    (h : ∀ b env1 S1 G1, Mon G G1 → At z.K z.G0 G1 S1 env1 σ → F G1 (k b env1 S1) → R (.bl b) G1.H) : RE z d σ G.H R := by
  unfold dB at P
  rw [bnd_assoc] at P
  refine toE L A P fun p env1 S1 v G1 m1 A1 r1 P1 => ?_
  unfold lift bnd at P1
  cases e : asB p with
  | none => simp only [e] at P1; exact (L.bad _ P1).elim
  | some c =>
    simp only [e] at P1
    rw [asB_rep e r1]
    exact h c env1 S1 G1 m1 A1 P1
theorem me_and {rest : List Expr} {d r : Cd PV} (h : ME X z a d) (hr : ME X z (.BoolOp .And (b :: rest) pos) r) : ME X z (.BoolOp .And (a :: b :: rest) pos) (dAndV d r) :=
  (pe_and h hr).imp fun σ H Q ⟨G, env, S, e, A, P⟩ => by
    subst e
    refine toB lwE A P fun k env1 S1 G1 m1 A1 P1 => ⟨k, rfl, ?_⟩
    cases k with
    | true => exact ⟨G1, env1, S1, rfl, A1, P1⟩
    | false => exact P1 (.bl false) G1 (Mon.refl _) A1 (.bl false)
theorem me_or {rest : List Expr} {d r : Cd PV} (h : ME X z a d) (hr : ME X z (.BoolOp .Or (b :: rest) pos) r) : ME X z (.BoolOp .Or (a :: b :: rest) pos) (dOrV d r) :=
  (pe_or h hr).imp fun σ H Q ⟨G, env, S, e, A, P⟩ => by
    subst e
    refine toB lwE A P fun k env1 S1 G1 m1 A1 P1 => ⟨k, rfl, ?_⟩
    cases k with
    | true => exact P1 (.bl true) G1 (Mon.refl _) A1 (.bl true)
    | false => exact ⟨G1, env1, S1, rfl, A1, P1⟩
def dNotV (d : Cd PV) : Cd PV := bnd (dB d) fun b => ret (.bl (!b))
theorem me_not {d : Cd PV} (h : ME X z a d) : ME X z (.UnaryOp .Not a pos) (dNotV d) :=
  (pe_not h).imp fun σ H Q ⟨G, env, S, e, A, P⟩ => by
    subst e
    exact toB lwE A P fun k env1 S1 G1 m1 A1 P1 => ⟨k, rfl, P1 _ G1 (Mon.refl _) A1 (.bl _)⟩
def dIfE (t : Cd Bool) (da db : Cd PV) : Cd PV := bnd t fun b => if b = true then da else db
theorem me_if {t : Expr} {d : Cd Bool} (ht : MT X z t d) (ha : ME X z a da) (hb : ME X z b db) : ME X z (.IfExp t a b pos) (dIfE d da db) :=
  (pe_ifExp ht ha hb).imp fun σ H Q ⟨G, env, S, e, A, P⟩ => by
    subst e
    refine toT lwE A P fun k env1 S1 G1 m1 A1 P1 => ?_
    cases k with
    | true => exact ⟨G1, env1, S1, rfl, A1, P1⟩
    | false => exact ⟨G1, env1, S1, rfl, A1, P1⟩
def dUn (f : PV → Option PV) (d : Cd PV) : Cd PV := bnd d fun p => lift (f p)
def pNeg : PV → Option PV
  | .int i => some (.int (-i))
  | _ => none
theorem me_neg {d : Cd PV} (h : ME X z a d) : ME X z (.UnaryOp .USub a pos) (dUn pNeg d) :=
  (pe_un un_neg h).imp fun σ H Q ⟨G, env, S, e, A, P⟩ => by
    subst e
    refine toE lwE A P fun p env1 S1 v G1 m1 A1 r1 P1 => ?_
    cases p with
    | int i =>
      cases r1
      exact ⟨i, rfl, P1 _ G1 (Mon.refl _) A1 (.int _)⟩
    | _ => exact P1.elim
end
end FS
set_option Elab.async false
set_option linter.all false
set_option maxRecDepth 100000
/-! FsStmt: statements. -/
namespace FS
open PySem PySem.Spec L2
theorem getElem?_set' {α : Type} (l : List α) (i j : Nat) (a : α) : (l.set i a)[j]? = if i = j then (if i < l.length then some a else none) else l[j]? := by
  by_cases h : i = j
  · subst h
    rw [if_pos rfl]
    by_cases hl : i < l.length
    · rw [if_pos hl, List.getElem?_set_self hl]
    · rw [if_neg hl, List.getElem?_eq_none (by rw [List.length_set]; omega)]
  · rw [if_neg h, List.getElem?_set_ne h]
section
variable {z : Zx} {G : Wd} {env : Env} {S : Stt} {σ : St} {i : Nat}
/-- a place's value is replaced by one that is not held alone -/
theorem At.setSlot0 {s : Slot} {v : Option V} (A : At z.K z.G0 G S env σ) (hs : (s = .none) ∨ (∃ p w, s = .val p ∧ v = some w ∧ Rep z.K G p w) ∨ ∃ a d w, s = .exc a d w ∧ v = some (.ref a) ∧ G.fz d ∧ ∃ u, G.H d = some (.xd [(("what" : Str), u)]) ∧ Rep z.K G w u) : At z.K z.G0 G S (env.set i s) (σ.set i v) := by
  have hno : ∀ xs, s ≠ .own xs := fun xs e => by
    rcases hs with h | ⟨p, w, h, _⟩ | ⟨a, d, w, h, _⟩ <;> (rw [h] at e; cases e)
  have own' : ∀ (j : Nat) (xs : List PV), (env.set i s)[j]? = some (.own xs) → i ≠ j ∧ env[j]? = some (.own xs) := fun j xs e => by
    rw [getElem?_set'] at e
    by_cases hj : i = j
    · rw [if_pos hj] at e
      by_cases hl : i < env.length
      · rw [if_pos hl] at e
        exact absurd (Option.some.inj e) (hno xs)
      · rw [if_neg hl] at e; cases e
    · rw [if_neg hj] at e
      exact ⟨hj, e⟩
  refine ⟨A.st, ⟨by rw [List.length_set, List.length_set]; exact A.en.len, fun j p e => ?_, fun j xs e => ?_, fun j b d w e => ?_, fun j k a h1 h2 e1 e2 => ?_⟩, A.ent, fun j a h e => ?_, A.sure⟩
  · rw [getElem?_set'] at e
    by_cases hj : i = j
    · rw [if_pos hj] at e
      by_cases hl : i < env.length
      · rw [if_pos hl] at e
        have e' := Option.some.inj e
        rcases hs with h | ⟨q, w, h, hv, r⟩ | ⟨b, d, w, h, _⟩
        · rw [h] at e'; cases e'
        · rw [h] at e'; cases e'
          exact ⟨w, by rw [getElem?_set', if_pos hj, if_pos (by rw [← A.en.len]; exact hl), hv], r⟩
        · rw [h] at e'; cases e'
      · rw [if_neg hl] at e; cases e
    · rw [if_neg hj] at e
      obtain ⟨w, e1, r⟩ := A.en.val j p e
      exact ⟨w, by rw [List.getElem?_set_ne hj]; exact e1, r⟩
  · obtain ⟨hj, e⟩ := own' j xs e
    obtain ⟨a, vs, e1, r⟩ := A.en.own j xs e
    exact ⟨a, vs, by rw [List.getElem?_set_ne hj]; exact e1, r⟩
  · rw [getElem?_set'] at e
    by_cases hj : i = j
    · rw [if_pos hj] at e
      by_cases hl : i < env.length
      · rw [if_pos hl] at e
        have e' := Option.some.inj e
        rcases hs with h | ⟨q, w, h, hv, r⟩ | ⟨b, d, w, h, hv, r⟩
        · rw [h] at e'; cases e'
        · rw [h] at e'; cases e'
        · rw [h] at e'; cases e'
          exact ⟨by rw [getElem?_set', if_pos hj, if_pos (by rw [← A.en.len]; exact hl), hv], r⟩
      · rw [if_neg hl] at e; cases e
    · rw [if_neg hj] at e
      obtain ⟨e1, r⟩ := A.en.exc j b d w e
      exact ⟨by rw [List.getElem?_set_ne hj]; exact e1, r⟩
  · obtain ⟨xs, h1⟩ := h1
    obtain ⟨ys, h2⟩ := h2
    obtain ⟨n1, h1⟩ := own' j xs h1
    obtain ⟨n2, h2⟩ := own' k ys h2
    rw [List.getElem?_set_ne n1] at e1
    rw [List.getElem?_set_ne n2] at e2
    exact A.en.dis j k a ⟨xs, h1⟩ ⟨ys, h2⟩ e1 e2
  · obtain ⟨xs, h⟩ := h
    obtain ⟨n1, h⟩ := own' j xs h
    rw [List.getElem?_set_ne n1] at e
    exact A.mine j a ⟨xs, h⟩ e
theorem At.setSlot {s : Slot} {v : Option V} (A : At z.K z.G0 G S env σ) (hs : (s = .none) ∨ ∃ p w, s = .val p ∧ v = some w ∧ Rep z.K G p w) : At z.K z.G0 G S (env.set i s) (σ.set i v) := A.setSlot0 (hs.elim .inl fun h => .inr (.inl h))
theorem At.setVal {p : PV} {v : V} (A : At z.K z.G0 G S env σ) (r : Rep z.K G p v) : At z.K z.G0 G S (env.set i (.val p)) (σ.set i (some v)) := A.setSlot (.inr ⟨p, v, rfl, rfl, r⟩)
theorem At.setOwn {xs : List PV} {a : Addr} {vs : List V} (A : At z.K z.G0 G S env σ) (r : RepL z.K G xs vs) (al : Alone z G env σ a vs) : At z.K z.G0 G S (env.set i (.own xs)) (σ.set i (some (.ref a))) := by
  have cas : ∀ (j : Nat) (ys : List PV), (env.set i (.own xs))[j]? = some (.own ys) → (i = j ∧ i < σ.length ∧ ys = xs) ∨ (i ≠ j ∧ env[j]? = some (.own ys)) := fun j ys e => by
    rw [getElem?_set'] at e
    by_cases hj : i = j
    · rw [if_pos hj] at e
      by_cases hl : i < env.length
      · rw [if_pos hl] at e
        cases e
        exact .inl ⟨hj, by rw [← A.en.len]; exact hl, rfl⟩
      · rw [if_neg hl] at e; cases e
    · rw [if_neg hj] at e
      exact .inr ⟨hj, e⟩
  refine ⟨A.st, ⟨by rw [List.length_set, List.length_set]; exact A.en.len, fun j p e => ?_, fun j ys e => ?_, fun j b d w e => ?_, fun j k b h1 h2 e1 e2 => ?_⟩, A.ent, fun j b h e => ?_, A.sure⟩
  · rw [getElem?_set'] at e
    by_cases hj : i = j
    · rw [if_pos hj] at e
      split at e <;> cases e
    · rw [if_neg hj] at e
      obtain ⟨w, e1, r⟩ := A.en.val j p e
      exact ⟨w, by rw [List.getElem?_set_ne hj]; exact e1, r⟩
  · rcases cas j ys e with ⟨rfl, hl, rfl⟩ | ⟨hj, e⟩
    · exact ⟨a, vs, by rw [List.getElem?_set_self hl], al.at_, r, al.nf, al.nm⟩
    · obtain ⟨b, ws, e1, r⟩ := A.en.own j ys e
      exact ⟨b, ws, by rw [List.getElem?_set_ne hj]; exact e1, r⟩
  · rw [getElem?_set'] at e
    by_cases hj : i = j
    · rw [if_pos hj] at e
      split at e <;> cases e
    · rw [if_neg hj] at e
      obtain ⟨e1, r⟩ := A.en.exc j b d w e
      exact ⟨by rw [List.getElem?_set_ne hj]; exact e1, r⟩
  · obtain ⟨ys, h1⟩ := h1
    obtain ⟨us, h2⟩ := h2
    rcases cas j ys h1 with ⟨rfl, hl, rfl⟩ | ⟨hj, h1⟩
    · rcases cas k us h2 with ⟨rfl, _, _⟩ | ⟨hk, h2⟩
      · rfl
      · rw [List.getElem?_set_self hl] at e1
        cases e1
        rw [List.getElem?_set_ne hk] at e2
        exact absurd e2 (al.no k ⟨us, h2⟩)
    · rw [List.getElem?_set_ne hj] at e1
      rcases cas k us h2 with ⟨rfl, hl, _⟩ | ⟨hk, h2⟩
      · rw [List.getElem?_set_self hl] at e2
        cases e2
        exact absurd e1 (al.no j ⟨ys, h1⟩)
      · rw [List.getElem?_set_ne hk] at e2
        exact A.en.dis j k b ⟨ys, h1⟩ ⟨us, h2⟩ e1 e2
  · obtain ⟨ys, h⟩ := h
    rcases cas j ys h with ⟨rfl, hl, rfl⟩ | ⟨hj, h⟩
    · rw [List.getElem?_set_self hl] at e
      cases e
      exact al.n0
    · rw [List.getElem?_set_ne hj] at e
      exact A.mine j b ⟨ys, h⟩ e
/-- the list that a place alone holds is frozen -/
theorem At.thaw {xs : List PV} (A : At z.K z.G0 G S env σ) (h : env[i]? = some (.own xs)) : ∃ a vs, σ[i]? = some (some (.ref a)) ∧ Alone z G (env.set i .none) σ a vs ∧ RepL z.K G xs vs := by
  obtain ⟨a, vs, e1, e2, r, n1, n2⟩ := A.en.own i xs h
  refine ⟨a, vs, e1, ⟨e2, n1, n2, A.mine i a ⟨xs, h⟩ e1, fun j ho e => ?_⟩, r⟩
  obtain ⟨ys, ho⟩ := ho
  rw [getElem?_set'] at ho
  by_cases hj : i = j
  · rw [if_pos hj] at ho
    split at ho <;> cases ho
  · rw [if_neg hj] at ho
    exact hj (A.en.dis i j a ⟨xs, h⟩ ⟨ys, ho⟩ e1 e)
end
/-! ### targets -/
def PostG (z : Zx) (G : Wd) (Q : St → Hp → Prop) : Out Unit → Prop
  | .ok _ env S => ∀ (σ' : St) (G' : Wd), Mon G G' → At z.K z.G0 G' S env σ' → Q σ' G'.H
  | .raise c w env S => ∀ σ', PRaise z G c w env S σ'
  | .bad => False
theorem PostG.later {z : Zx} {G G1 : Wd} {Q : St → Hp → Prop} {o : Out Unit} (h : PostG z G Q o) (M : Mon G G1) : PostG z G1 Q o := by
  cases o with
  | ok p env S => exact fun σ' G' m a => h σ' G' (M.trans m) a
  | raise c w env S => exact fun σ' => (h σ').later M
  | bad => exact h
theorem lwG {z : Zx} {Q : St → Hp → Prop} : Lw z (fun G o => PostG z G Q o) := ⟨fun _ _ _ h m => h.later m, fun _ _ _ _ _ h => h, fun _ h => h⟩
def RG (z : Zx) (d : PV → Cd Unit) : TG := fun v σ H Q => ∃ G env S p, G.H = H ∧ At z.K z.G0 G S env σ ∧ Rep z.K G p v ∧ PostG z G Q (d p env S)
def RGs (z : Zx) (d : List PV → Cd Unit) : TGs := fun vs σ H Q => ∃ G env S ps, G.H = H ∧ At z.K z.G0 G S env σ ∧ RepL z.K G ps vs ∧ PostG z G Q (d ps env S)
theorem toG {z : Zx} {β : Type} {F : Wd → Out β → Prop} {G : Wd} {env : Env} {S : Stt} {σ : St} (L : Lw z F) {d : PV → Cd Unit} {p : PV} {v : V} {k : Unit → Cd β} {R : St → Hp → Prop} (A : At z.K z.G0 G S env σ) (r : Rep z.K G p v) (P : F G (bnd (d p) k env S))
    (h : ∀ env1 S1 σ1 G1, Mon G G1 → At z.K z.G0 G1 S1 env1 σ1 → F G1 (k () env1 S1) → R σ1 G1.H) : RG z d v σ G.H R := by
  refine ⟨G, env, S, p, rfl, A, r, ?_⟩
  unfold bnd at P
  cases e : d p env S with
  | ok u env1 S1 =>
    rw [e] at P
    exact fun σ1 G1 m a => h env1 S1 σ1 G1 m a (L.later _ _ _ P m)
  | raise c w env1 S1 =>
    rw [e] at P
    exact L.rais _ _ _ _ _ P
  | bad =>
    rw [e] at P
    exact (L.bad _ P).elim
section
variable {X : Cx} {z : Zx} {pos : Pos}
abbrev MG (X : Cx) (z : Zx) (e : Expr) (d : PV → Cd Unit) : Prop := PG X e (RG z d)
abbrev MGs (X : Cx) (z : Zx) (e : List Expr) (d : List PV → Cd Unit) : Prop := PGs X e (RGs z d)
theorem _root_.L2.PG.imp {e : Expr} {t t' : TG} (h : PG X e t) (i : ∀ v σ H Q, t' v σ H Q → t v σ H Q) : PG X e t' := ⟨fun pins s σ H v u Q I r q => h.run pins s σ H v u Q I r (i v σ H Q q)⟩
theorem _root_.L2.PGs.imp {e : List Expr} {t t' : TGs} (h : PGs X e t) (i : ∀ v σ H Q, t' v σ H Q → t v σ H Q) : PGs X e t' := ⟨fun pins s σ H v u Q I r q => h.run pins s σ H v u Q I r (i v σ H Q q)⟩
def gSet (i : Nat) : PV → Cd Unit := fun p e s => .ok () (e.set i (.val p)) s
theorem mg_name (i : Nat) {x : Str} (hN : X.N.Nodup) (hi : X.N[i]? = some x := by rfl) (hx : Loc X.env.scope x := by first | exact Or.inl rfl | exact Or.inr rfl) (hf : X.fn x = true ∨ X.env.scope.names.lookup x = some .local := by first | exact .inl rfl | exact .inr rfl | assumption) : MG X z (.Name x pos) (gSet i) :=
  (pg_name hN hi hx hf).imp fun v σ H Q ⟨G, env, S, p, e, A, r, P⟩ => by
    subst e
    exact P _ G (Mon.refl G) (A.setVal r)
def gsNil : List PV → Cd Unit := fun ps => match ps with
  | [] => ret ()
  | _ => fun _ _ => .bad
def gsCons (g : PV → Cd Unit) (gs : List PV → Cd Unit) : List PV → Cd Unit := fun ps => match ps with
  | [] => fun _ _ => .bad
  | p :: r => bnd (g p) fun _ => gs r
theorem mgs_nil : MGs X z [] gsNil := pgs_nil.imp fun vs σ H Q ⟨G, env, S, ps, e, A, r, P⟩ => by
  subst e
  cases r with
  | nil => exact ⟨rfl, P σ G (Mon.refl G) A⟩
  | cons _ _ => exact P.elim
theorem mgs_cons {e : Expr} {es : List Expr} {g : PV → Cd Unit} {gs : List PV → Cd Unit} (h : MG X z e g) (hr : MGs X z es gs) (hs : (assignEach (e :: es) X.env).map (·.2) = assign e X.env :: (assignEach es X.env).map (·.2) := by rfl) : MGs X z (e :: es) (gsCons g gs) :=
  (pgs_cons h hr hs).imp fun vs σ H Q ⟨G, env, S, ps, e, A, r, P⟩ => by
    subst e
    cases r with
    | nil => exact P.elim
    | cons r0 rr => exact ⟨_, _, rfl, toG lwG A r0 P fun env1 S1 σ1 G1 m1 A1 P1 => ⟨G1, env1, S1, _, rfl, A1, rr.mon m1, P1⟩⟩
def gTupD (n : Nat) (gs : List PV → Cd Unit) : PV → Cd Unit := fun p => match p with
  | .tup ps => if ps.length = n then gs ps else fun _ _ => .bad
  | .tuz ps => if ps.length = n then gs ps else fun _ _ => .bad
  | _ => fun _ _ => .bad
theorem mg_tup {es : List Expr} {k : Nat} {gs : List PV → Cd Unit} {n : Nat} (h : MGs X z es gs) (hK : z.K = X.K := by rfl) (hc : X.calm = true := by rfl) (hn : (assignEach es X.env).length = n := by rfl) (hst : (assignEach es X.env).findIdx? (·.1) = none := by rfl) : MG X z (.Tuple es k pos) (gTupD n gs) :=
  (pg_tup hc h hn hst).imp fun v σ H Q ⟨G, env, S, p, e, A, r, P⟩ => by
    subst e
    cases p with
    | tup ps =>
      obtain ⟨a, vs, rfl, q, rr⟩ := r.sqT
      unfold gTupD at P
      by_cases hl : ps.length = n
      · simp only [if_pos hl] at P
        exact ⟨a, vs, rfl, by rw [← hK]; exact q, by rw [← rr.length]; exact hl, G, env, S, ps, rfl, A, rr, P⟩
      · simp only [if_neg hl] at P
        exact P.elim
    | tuz ps =>
      obtain ⟨a, vs, rfl, q, rr⟩ := r.sqZ
      unfold gTupD at P
      by_cases hl : ps.length = n
      · simp only [if_pos hl] at P
        exact ⟨a, vs, rfl, by rw [← hK]; exact q, by rw [← rr.length]; exact hl, G, env, S, ps, rfl, A, rr, P⟩
      · simp only [if_neg hl] at P
        exact P.elim
    | _ => exact P.elim
end
/-! ### statements -/
section
variable {X : Cx} {z : Zx} {pos pos' : Pos}
abbrev MS (X : Cx) (z : Zx) (st : Stmt) (d : Cd Flw) : Prop := PS X st (RS z d)
abbrev MSs (X : Cx) (z : Zx) (st : List Stmt) (d : Cd Flw) : Prop := PSs X st (RS z d)
def nxt : Cd Flw := ret .next
/-- d, then (if it goes on) r -/
def dSeq (d r : Cd Flw) : Cd Flw := bnd d fun f => match f with
  | .next => r
  | f => ret f
theorem mss_nil : MSs X z [] nxt := PSs.imp pss_nil fun D σ H ⟨G, env, S, e, A, P⟩ => by
  subst e
  exact P σ G (Mon.refl G) A
theorem mss_one {st : Stmt} {d : Cd Flw} (h : MS X z st d) : MSs X z [st] d := pss_one h
theorem toS {β : Type} {z : Zx} {F : Wd → Out β → Prop} {G : Wd} {env : Env} {S : Stt} {σ : St} (L : Lw z F) {d : Cd Flw} {k : Flw → Cd β} {D : Ends} (A : At z.K z.G0 G S env σ) (P : F G (bnd d k env S))
    (hn : ∀ env1 S1 σ1 G1, Mon G G1 → At z.K z.G0 G1 S1 env1 σ1 → F G1 (k .next env1 S1) → D.nx σ1 G1.H)
    (hb : ∀ env1 S1 σ1 G1, Mon G G1 → At z.K z.G0 G1 S1 env1 σ1 → F G1 (k .brk env1 S1) → D.bk σ1 G1.H)
    (hc : ∀ env1 S1 σ1 G1, Mon G G1 → At z.K z.G0 G1 S1 env1 σ1 → F G1 (k .cont env1 S1) → D.ct σ1 G1.H)
    (hr : ∀ p v env1 S1 σ1 G1, Mon G G1 → At z.K z.G0 G1 S1 env1 σ1 → Rep z.K G1 p v → F G1 (k (.ret p) env1 S1) → D.rt v G1.H) : RS z d D σ G.H := by
  refine ⟨G, env, S, rfl, A, ?_⟩
  unfold bnd at P
  cases e : d env S with
  | ok f env1 S1 =>
    rw [e] at P
    cases f with
    | next => exact fun σ1 G1 m a => hn env1 S1 σ1 G1 m a (L.later _ _ _ P m)
    | brk => exact fun σ1 G1 m a => hb env1 S1 σ1 G1 m a (L.later _ _ _ P m)
    | cont => exact fun σ1 G1 m a => hc env1 S1 σ1 G1 m a (L.later _ _ _ P m)
    | ret p => exact fun v σ1 G1 m a r => hr p v env1 S1 σ1 G1 m a r (L.later _ _ _ P m)
  | raise c w env1 S1 =>
    rw [e] at P
    exact L.rais _ _ _ _ _ P
  | bad =>
    rw [e] at P
    exact (L.bad _ P).elim
theorem mss_cons {st : Stmt} {rest : List Stmt} {d r : Cd Flw} (h : MS X z st d) (hr : MSs X z rest r) : MSs X z (st :: rest) (dSeq d r) :=
  PSs.imp (pss_cons h hr) fun D σ H ⟨G, env, S, e, A, P⟩ => by
    subst e
    exact toS lwS (D := { D with nx := RS z r D }) A P (fun env1 S1 σ1 G1 m A1 P1 => ⟨G1, env1, S1, rfl, A1, P1⟩) (fun env1 S1 σ1 G1 m A1 P1 => P1 σ1 G1 (Mon.refl _) A1) (fun env1 S1 σ1 G1 m A1 P1 => P1 σ1 G1 (Mon.refl _) A1)
      (fun p v env1 S1 σ1 G1 m A1 r1 P1 => P1 v σ1 G1 (Mon.refl _) A1 r1)
variable {e : Expr} {d : Cd PV}
def dDrop (d : Cd PV) : Cd Flw := bnd d fun _ => nxt
theorem ms_expr (he : ME X z e d) (hs : swapsWith e none pos.line X.env = pure false := by rfl) : MS X z (.Expr e pos) (dDrop d) := PS.imp (ps_expr he hs) fun D σ H ⟨G, env, S, e, A, P⟩ => by
  subst e
  exact toE lwS A P fun p env1 S1 v G1 m1 A1 r1 P1 => P1 σ G1 (Mon.refl _) A1
def dRet (d : Cd PV) : Cd Flw := bnd d fun p => ret (.ret p)
theorem ms_ret (he : ME X z e d) : MS X z (.Return (some e) pos) (dRet d) := PS.imp (ps_ret he) fun D σ H ⟨G, env, S, e, A, P⟩ => by
  subst e
  exact toE lwS A P fun p env1 S1 v G1 m1 A1 r1 P1 => P1 v σ G1 (Mon.refl _) A1 r1
def dIf (t : Cd Bool) (a b : Cd Flw) : Cd Flw := bnd t fun k => if k = true then a else b
theorem ms_if {c : Expr} {a b : List Stmt} {t : Cd Bool} {da db : Cd Flw} (hc : MT X z c t) (ha : MSs X z a da) (hb : MSs X z b db) : MS X z (.If c a b pos) (dIf t da db) := PS.imp (ps_if hc ha hb) fun D σ H ⟨G, env, S, e, A, P⟩ => by
  subst e
  refine toT lwS A P fun k env1 S1 G1 m1 A1 P1 => ?_
  cases k with
  | true => exact ⟨G1, env1, S1, rfl, A1, P1⟩
  | false => exact ⟨G1, env1, S1, rfl, A1, P1⟩
/-- target = e -/
def dAsg (d : Cd PV) (g : PV → Cd Unit) : Cd Flw := bnd d fun p => bnd (g p) fun _ => nxt
theorem ms_asg {tg : Expr} {g : PV → Cd Unit} (he : ME X z e d) (hg : MG X z tg g) (hs : swapsWithSole [tg] e pos.line X.env = pure false := by rfl) (hw : swappedStores [tg] e X.env = pure none := by rfl)
    (h1 : (assignEach [tg] X.env).map (·.2) = [assign tg X.env] := by rfl) : MS X z (.Assign [tg] e pos) (dAsg d g) := PS.imp (ps_asg he hg hs hw h1) fun D σ H ⟨G, env, S, e, A, P⟩ => by
  subst e
  exact toE lwS A P fun p env1 S1 v G1 m1 A1 r1 P1 => toG lwS A1 r1 P1 fun env2 S2 σ2 G2 m2 A2 P2 => P2 σ2 G2 (Mon.refl _) A2
/-- name = e -/
def dSet (i : Nat) (d : Cd PV) : Cd Flw := bnd d fun p => fun e s => .ok .next (e.set i (.val p)) s
theorem ms_set (i : Nat) {x : Str} (hN : X.N.Nodup) (he : ME X z e d) (hi : X.N[i]? = some x := by rfl) (hx : Loc X.env.scope x := by first | exact Or.inl rfl | exact Or.inr rfl) (hs : swapsWith e (some (.Name x pos')) pos.line X.env = pure false := by rfl)
    (hf : X.fn x = true ∨ X.env.scope.names.lookup x = some .local := by first | exact .inl rfl | exact .inr rfl | assumption) : MS X z (.Assign [.Name x pos'] e pos) (dSet i d) := PS.imp (ps_set hN hi hx he hs hf) fun D σ H ⟨G, env, S, e, A, P⟩ => by
  subst e
  exact toE lwS A P fun p env1 S1 v G1 m1 A1 r1 P1 => P1 _ G1 (Mon.refl _) (A1.setVal r1)
/-- name = a new list that the name alone holds -/
def dOwn (i : Nat) (d : Cd (List PV)) : Cd Flw := bnd d fun xs => fun e s => .ok .next (e.set i (.own xs)) s
theorem ms_own (i : Nat) {x : Str} {d : Cd (List PV)} (hN : X.N.Nodup) (he : MF X z e d) (hi : X.N[i]? = some x := by rfl) (hx : Loc X.env.scope x := by first | exact Or.inl rfl | exact Or.inr rfl) (hs : swapsWith e (some (.Name x pos')) pos.line X.env = pure false := by rfl)
    (hf : X.fn x = true ∨ X.env.scope.names.lookup x = some .local := by first | exact .inl rfl | exact .inr rfl | assumption) : MS X z (.Assign [.Name x pos'] e pos) (dOwn i d) := PS.imp (ps_set hN hi hx he hs hf) fun D σ H ⟨G, env, S, e, A, P⟩ => by
  subst e
  exact toF lwS A P fun xs env1 S1 a vs G1 m1 A1 r1 al P1 => P1 _ G1 (Mon.refl _) (A1.setOwn r1 al)
/-- a, b = e1, e2 -/
def dPar (i j : Nat) (d : Cd (List PV)) : Cd Flw := bnd d fun ps => match ps with
  | [p, q] => fun e s => .ok .next ((e.set i (.val p)).set j (.val q)) s
  | _ => fun _ _ => .bad
theorem ms_par (i j : Nat) {x y : Str} {a b : Expr} {d : Cd (List PV)} {px py pt : Pos} {kt k2 pt2} (hN : X.N.Nodup) (ha : MA X z [a, b] d) (hij : i ≠ j := by decide) (hc : X.calm = true := by rfl) (hi : X.N[i]? = some x := by rfl) (hj : X.N[j]? = some y := by rfl)
    (hx : X.env.scope.names.lookup x = some .local := by rfl) (hy : X.env.scope.names.lookup y = some .local := by rfl)
    (hw : swappedStores [.Tuple [.Name x px, .Name y py] kt pt] (.Tuple [a, b] k2 pt2) X.env = pure (some [x, y]) := by rfl)
    (hs : swapsWithSole [.Tuple [.Name x px, .Name y py] kt pt] (.Tuple [a, b] k2 pt2) pos.line X.env = pure false := by rfl) :
    MS X z (.Assign [.Tuple [.Name x px, .Name y py] kt pt] (.Tuple [a, b] k2 pt2) pos) (dPar i j d) := PS.imp (ps_par hc hN hi hj hij hx hy ha hw hs) fun D σ H ⟨G, env, S, e, A, P⟩ => by
  subst e
  refine toA lwS A P fun ps env1 S1 vs G1 m1 A1 r1 P1 => ?_
  cases r1 with
  | nil => exact P1.elim
  | cons r0 rr =>
    cases rr with
    | nil => exact P1.elim
    | cons r2 rr =>
      cases rr with
      | cons _ _ => exact P1.elim
      | nil => exact ⟨_, _, rfl, P1 _ G1 (Mon.refl _) ((A1.setVal r0).setVal r2)⟩
/-! ### for -/
/-- J walks ps, as long as the frozen things stand -/
structure Enum (K : PySem.W.Frag) (J : It) (G : Wd) (ps : List PV) : Prop where
  stop : ∀ i G1, Mon G G1 → ps.length ≤ i → J.stop i G1.H
  go : ∀ (i : Nat) (p : PV) (G1 : Wd), Mon G G1 → Sure G1 → ps[i]? = some p → J.go i G1.H ∧ ∀ x H', J.yld i G1.H x H' → ∃ G2, G2.H = H' ∧ Ext G1 G2 ∧ Sure G2 ∧ Rep K G2 p x
def PostI (z : Zx) (G : Wd) (σ : St) (R : It → Hp → Prop) : Out (List PV) → Prop
  | .ok ps env S => ∀ (J : It) (G' : Wd), Mon G G' → At z.K z.G0 G' S env σ → Enum z.K J G' ps → R J G'.H
  | .raise c w env S => ∀ σ', PRaise z G c w env S σ'
  | .bad => False
theorem PostI.later {z : Zx} {G G1 : Wd} {σ : St} {R : It → Hp → Prop} {o : Out (List PV)} (h : PostI z G σ R o) (M : Mon G G1) : PostI z G1 σ R o := by
  cases o with
  | ok p env S => exact fun J G' m => h J G' (M.trans m)
  | raise c w env S => exact fun σ' => (h σ').later M
  | bad => exact h
theorem lwI {z : Zx} {σ : St} {R : It → Hp → Prop} : Lw z (fun G o => PostI z G σ R o) := ⟨fun _ _ _ h m => h.later m, fun _ _ _ _ _ h => h, fun _ h => h⟩
def RI (z : Zx) (d : Cd (List PV)) : TI := fun σ H R => ∃ G env S, G.H = H ∧ At z.K z.G0 G S env σ ∧ PostI z G σ R (d env S)
abbrev MI (X : Cx) (z : Zx) (tg e : Expr) (d : Cd (List PV)) : Prop := PI X tg e (RI z d)
theorem _root_.L2.PI.imp {tg e : Expr} {t t' : TI} (h : PI X tg e t) (i : ∀ σ H R, t' σ H R → t σ H R) : PI X tg e t' := ⟨fun pins s σ H R I q => h.run pins s σ H R I (i σ H R q)⟩
theorem _root_.L2.PI.or {tg e : Expr} {t t' : TI} (h : PI X tg e t) (h' : PI X tg e t') : PI X tg e (fun σ H R => t σ H R ∨ t' σ H R) := ⟨fun pins s σ H R I q => q.elim (h.run pins s σ H R I) (h'.run pins s σ H R I)⟩
theorem toI {β : Type} {z : Zx} {F : Wd → Out β → Prop} {G : Wd} {env : Env} {S : Stt} {σ : St} (L : Lw z F) {d : Cd (List PV)} {k : List PV → Cd β} {R : It → Hp → Prop} (A : At z.K z.G0 G S env σ) (P : F G (bnd d k env S))
    (h : ∀ ps env1 S1 J G1, Mon G G1 → At z.K z.G0 G1 S1 env1 σ → Enum z.K J G1 ps → F G1 (k ps env1 S1) → R J G1.H) : RI z d σ G.H R := by
  refine ⟨G, env, S, rfl, A, ?_⟩
  unfold bnd at P
  cases e : d env S with
  | ok ps env1 S1 =>
    rw [e] at P
    exact fun J G1 m a en => h ps env1 S1 J G1 m a en (L.later _ _ _ P m)
  | raise c w env1 S1 =>
    rw [e] at P
    exact L.rais _ _ _ _ _ P
  | bad =>
    rw [e] at P
    exact (L.bad _ P).elim
def dForL (g : PV → Cd Unit) (b : Cd Flw) : List PV → Cd Flw
  | [] => nxt
  | p :: ps => bnd (g p) fun _ => bnd b fun f => match f with
    | .next => dForL g b ps
    | .cont => dForL g b ps
    | .brk => nxt
    | .ret v => ret (.ret v)
def dFor (d : Cd (List PV)) (g : PV → Cd Unit) (b : Cd Flw) : Cd Flw := bnd d (dForL g b)
theorem for_go {J : It} {G0 : Wd} {ps : List PV} {g : PV → Cd Unit} {b : Cd Flw} {D : Ends} (en : Enum z.K J G0 ps) {σ : St} {env : Env} {S : Stt} (A : At z.K z.G0 G0 S env σ) (P : PostS z G0 D (dForL g b ps env S)) :
    ∃ W : Nat → Nat → St → Hp → Prop, (∃ m, W 0 m σ G0.H) ∧ ∀ i m σ H, W i m σ H →
      (J.stop i H ∧ D.nx σ H) ∨ (J.go i H ∧ ∃ N : St → Hp → Prop, (∀ σ' H', N σ' H' → ∃ m', m' < m ∧ W (i + 1) m' σ' H') ∧ ∀ x H', J.yld i H x H' → RG z g x σ H' fun σ2 H2 => RS z b { D with nx := N, ct := N, bk := D.nx } σ2 H2) := by
  refine ⟨fun i m σ H => m = ps.length - i ∧ i ≤ ps.length ∧ ∃ G1 env S, G1.H = H ∧ Mon G0 G1 ∧ At z.K z.G0 G1 S env σ ∧ PostS z G1 D (dForL g b (ps.drop i) env S), ⟨ps.length, by simp, Nat.zero_le _, G0, env, S, rfl, Mon.refl _, A, by simpa using P⟩, ?_⟩
  rintro i m σ H ⟨rfl, hi, G1, env, S, rfl, M, A, P⟩
  by_cases hl : i < ps.length
  · have e : ps.drop i = ps[i] :: ps.drop (i + 1) := List.drop_eq_getElem_cons hl
    rw [e] at P
    obtain ⟨q1, q2⟩ := en.go i ps[i] G1 M A.sure (by simp [hl])
    refine .inr ⟨q1, fun σ' H' => ∃ G1 env S, G1.H = H' ∧ Mon G0 G1 ∧ At z.K z.G0 G1 S env σ' ∧ PostS z G1 D (dForL g b (ps.drop (i + 1)) env S), fun σ' H' h => ⟨ps.length - (i + 1), by omega, rfl, hl, h⟩, fun x H' y => ?_⟩
    obtain ⟨G2, rfl, x2, s2, r2⟩ := q2 x H' y
    have m2 := x2.mon A.sure
    refine toG lwS (A.ext x2 s2) r2 (P.later m2) fun env3 S3 σ3 G3 m3 A3 P3 => ?_
    refine toS lwS A3 P3 (fun env4 S4 σ4 G4 m4 A4 P4 => ?_) (fun env4 S4 σ4 G4 m4 A4 P4 => P4 σ4 G4 (Mon.refl _) A4) (fun env4 S4 σ4 G4 m4 A4 P4 => ?_) fun p v env4 S4 σ4 G4 m4 A4 r4 P4 => P4 v σ4 G4 (Mon.refl _) A4 r4
    · exact ⟨G4, env4, S4, rfl, ((M.trans m2).trans m3).trans m4, A4, P4⟩
    · exact ⟨G4, env4, S4, rfl, ((M.trans m2).trans m3).trans m4, A4, P4⟩
  · have e : ps.drop i = [] := List.drop_eq_nil_of_le (by omega)
    rw [e] at P
    exact .inl ⟨en.stop i G1 M (by omega), P σ G1 (Mon.refl _) A⟩
theorem ms_for {tg iter : Expr} {body : List Stmt} {d : Cd (List PV)} {g : PV → Cd Unit} {b : Cd Flw} (hp : PassesOwn (model X.prog X.w) X.A X.env X.xe) (hi : MI X z tg iter d) (hg : MG X z tg g) (hb : MSs X z body b) (hc : X.calm = true := by rfl)
    (hs : ∀ x, foldedSetIterable iter X.env x = pure x := by intro _; rfl) : MS X z (.For tg iter body [] pos) (dFor d g b) := PS.imp (ps_for hp hc hi hg hb hs) fun D σ H ⟨G, env, S, e, A, P⟩ => by
  subst e
  exact toI lwS A P fun ps env1 S1 J G1 m1 A1 en P1 => for_go en A1 P1
/-! ### while -/
def iterW (c : Cd Bool) (b : Cd Flw) : Nat → Cd Flw
  | 0 => fun _ _ => .bad
  | n + 1 => bnd c fun k => if k = true then bnd b fun f => match f with
    | .next => iterW c b n
    | .cont => iterW c b n
    | .brk => nxt
    | .ret v => ret (.ret v)
    else nxt
theorem iterW_succ (c : Cd Bool) (b : Cd Flw) : ∀ (n : Nat) (e : Env) (s : Stt), iterW c b n e s ≠ .bad → iterW c b (n + 1) e s = iterW c b n e s
  | 0, _, _, h => absurd rfl h
  | n + 1, e, s, h => by
    have ih := iterW_succ c b n
    generalize hm : n + 1 = m at ih
    unfold iterW
    subst hm
    show bnd c _ e s = bnd c _ e s
    unfold iterW at h
    unfold bnd at h ⊢
    cases hc : c e s with
    | raise => rfl
    | bad => rfl
    | ok k e1 s1 =>
      rw [hc] at h
      simp only [Out.bind] at h ⊢
      cases k with
      | false => rfl
      | true =>
        simp only [if_true] at h ⊢
        cases hb : b e1 s1 with
        | raise => rfl
        | bad => rfl
        | ok f e2 s2 =>
          rw [hb] at h
          cases f with
          | next => exact ih e2 s2 h
          | cont => exact ih e2 s2 h
          | brk => rfl
          | ret v => rfl
theorem iterW_le (c : Cd Bool) (b : Cd Flw) {n : Nat} {e : Env} {s : Stt} (h : iterW c b n e s ≠ .bad) : ∀ {m : Nat}, n ≤ m → iterW c b m e s = iterW c b n e s := by
  intro m hm
  induction hm with
  | refl => rfl
  | step _ ih => rw [iterW_succ _ _ _ _ _ (by rw [ih]; exact h), ih]
open Classical in
noncomputable def dWhile (c : Cd Bool) (b : Cd Flw) : Cd Flw := fun e s => if h : ∃ n, iterW c b n e s ≠ .bad then iterW c b (Classical.choose h) e s else .bad
theorem dWhile_of {c : Cd Bool} {b : Cd Flw} {n : Nat} {e : Env} {s : Stt} {r : Out Flw} (h : iterW c b n e s = r) (hr : r ≠ .bad) : dWhile c b e s = r := by
  have hx : ∃ n, iterW c b n e s ≠ .bad := ⟨n, by rw [h]; exact hr⟩
  unfold dWhile
  rw [dif_pos hx]
  have h1 := Classical.choose_spec hx
  rcases Nat.le_total n (Classical.choose hx) with q | q
  · rw [iterW_le c b (by rw [h]; exact hr) q, h]
  · rw [← iterW_le c b h1 q, h]
theorem dWhile_some {c : Cd Bool} {b : Cd Flw} {e : Env} {s : Stt} : dWhile c b e s = .bad ∨ ∃ n, dWhile c b e s = iterW c b n e s := by
  unfold dWhile
  by_cases h : ∃ n, iterW c b n e s ≠ .bad
  · rw [dif_pos h]
    exact .inr ⟨_, rfl⟩
  · rw [dif_neg h]
    exact .inl rfl
theorem ms_while {c : Expr} {body : List Stmt} {t : Cd Bool} {b : Cd Flw} (hp : PassesOwn (model X.prog X.w) X.A X.env X.xe) (hc : MT X z c t) (hb : MSs X z body b) : MS X z (.While c body [] pos) (dWhile t b) := PS.imp (ps_while hp hc hb) fun D σ H ⟨G, env, S, e, A, P⟩ => by
  subst e
  rcases dWhile_some (c := t) (b := b) (e := env) (s := S) with e | ⟨n, e⟩
  · rw [e] at P; exact P.elim
  · rw [e] at P
    refine ⟨fun m σ H => ∃ G env S, G.H = H ∧ At z.K z.G0 G S env σ ∧ PostS z G D (iterW t b m env S), ⟨n, G, env, S, rfl, A, P⟩, ?_⟩
    rintro m σ H ⟨G, env, S, rfl, A, P⟩
    cases m with
    | zero => exact P.elim
    | succ m =>
      unfold iterW at P
      refine toT lwS A P fun k env1 S1 G1 m1 A1 P1 => ?_
      cases k with
      | false => exact P1 σ G1 (Mon.refl _) A1
      | true =>
        rw [if_pos rfl] at P1 ⊢
        refine ⟨fun σ H => ∃ G env S, G.H = H ∧ At z.K z.G0 G S env σ ∧ PostS z G D (iterW t b m env S), fun σ' H' h => ⟨m, Nat.lt_succ_self _, h⟩, ?_⟩
        exact toS lwS A1 P1 (fun env4 S4 σ4 G4 m4 A4 P4 => ⟨G4, env4, S4, rfl, A4, P4⟩) (fun env4 S4 σ4 G4 m4 A4 P4 => P4 σ4 G4 (Mon.refl _) A4) (fun env4 S4 σ4 G4 m4 A4 P4 => ⟨G4, env4, S4, rfl, A4, P4⟩)
          fun p v env4 S4 σ4 G4 m4 A4 r4 P4 => P4 v σ4 G4 (Mon.refl _) A4 r4
end
end FS
set_option Elab.async false
set_option linter.all false
set_option maxRecDepth 100000
/-! FsDef: defs, calls, raise. -/
namespace FS
open PySem PySem.Spec L2
inductive Res where
  | ok (p : PV) (s : Stt)
  | raise (c : Str) (w : PV) (s : Stt)
  | bad
def PostD (K : PySem.W.Frag) (mg : Str → Option Value) (G : Wd) (Q : VK) (E : XK) : Res → Prop
  | .ok p S => ∀ (v : V) (G' : Wd), Ent G G' → Mon G G' → RepS K G' S → Sure G' → Rep K G' p v → Q v G'.H
  | .raise c w S => ∀ (cls : Value) (d : Addr) (v : V) (G' : Wd), Ent G G' → Mon G G' → RepS K G' S → Sure G' → mg c = some cls → Nu G.H d → G'.H d = some (.xd [(("what" : Str), v)]) → Rep K G' w v → E cls (some d) G'.H
  | .bad => False
/-- the promise of a def: it does what den says -/
def spD (K : PySem.W.Frag) (mg : Str → Option Value) (n : Nat) (den : List PV → Stt → Res) : Sp := fun vs H Q E =>
  ∃ G ps S, G.H = H ∧ RepL K G ps vs ∧ RepS K G S ∧ Sure G ∧ vs.length = n ∧ PostD K mg G Q E (den ps S)
/-- a body's value -/
def fin : Out Flw → Res
  | .ok .next _ s => .ok .non s
  | .ok (.ret p) _ s => .ok p s
  | .raise c w _ s => .raise c w s
  | _ => .bad
/-- a def of n names, k of them parameters -/
def runD (n k : Nat) (d : Cd Flw) (ps : List PV) (S : Stt) : Res := if ps.length = k then fin (d (ps.map Slot.val ++ List.replicate (n - k) Slot.none) S) else .bad
section
variable {K : PySem.W.Frag}
theorem start_rep {G : Wd} {S : Stt} {ps : List PV} {vs : List V} {N : List Str} (r : RepL K G ps vs) (s : RepS K G S) (su : Sure G) :
    At K G G S (ps.map Slot.val ++ List.replicate (N.length - ps.length) Slot.none) (L2.start N vs) := by
  have hl := r.length
  have no : ∀ (i : Nat) (xs : List PV), (ps.map Slot.val ++ List.replicate (N.length - ps.length) Slot.none)[i]? ≠ some (.own xs) := fun i xs e => by
    by_cases hi : i < ps.length
    · rw [List.getElem?_append_left (by simpa using hi), List.getElem?_map] at e
      cases q : ps[i]? with
      | none => rw [q] at e; cases e
      | some p => rw [q] at e; cases e
    · rw [List.getElem?_append_right (by simpa using hi)] at e
      have := List.mem_of_getElem? e
      have := List.eq_of_mem_replicate this
      cases this
  have no2 : ∀ (i : Nat) (a d : Addr) (w : PV), (ps.map Slot.val ++ List.replicate (N.length - ps.length) Slot.none)[i]? ≠ some (.exc a d w) := fun i a d w e => by
    by_cases hi : i < ps.length
    · rw [List.getElem?_append_left (by simpa using hi), List.getElem?_map] at e
      cases q : ps[i]? with
      | none => rw [q] at e; cases e
      | some p => rw [q] at e; cases e
    · rw [List.getElem?_append_right (by simpa using hi)] at e
      have := List.mem_of_getElem? e
      have := List.eq_of_mem_replicate this
      cases this
  refine ⟨s, ⟨?_, fun i p e => ?_, fun i xs e => absurd e (no i xs), fun i a d w e => absurd e (no2 i a d w), fun i j a h => absurd h.choose_spec (no i _)⟩, .refl G, fun i a h => absurd h.choose_spec (no i _), su⟩
  · unfold L2.start
    simp [hl]
  · by_cases hi : i < ps.length
    · rw [List.getElem?_append_left (by simpa using hi), List.getElem?_map] at e
      cases q : ps[i]? with
      | none => rw [q] at e; cases e
      | some p' =>
        rw [q] at e
        have e' := Option.some.inj e
        cases e'
        obtain ⟨v, e1, r1⟩ := r.get q
        refine ⟨v, ?_, r1⟩
        unfold L2.start
        rw [List.getElem?_append_left (by simpa [← hl] using hi), List.getElem?_map, e1]
        rfl
    · rw [List.getElem?_append_right (by simpa using hi)] at e
      have := List.mem_of_getElem? e
      have := List.eq_of_mem_replicate this
      cases this
end
section
variable {P : Program} {w : World} {K : PySem.W.Frag} {mg : Str → Option Value} {base : Heap}
/-- the surroundings of a def's body -/
abbrev zOf (K : PySem.W.Frag) (mg : Str → Option Value) (G : Wd) (E : XK) : Zx := ⟨K, mg, G, fun cls d _ H => E cls d H⟩
/-- THE RULE for a def -/
theorem def_ok {x qual : Str} {st : Stmt} {f : Addr} {fd : FuncData} {N ps : List Str} {k : Nat} {d : Cd Flw} (F : Fun K x qual st f fd) (S : FnScope N ps (defScope st))
    (hbody : ∀ (cdv : Value) (A : Around) (outer : List PySem.Env) (s : Shared) (H : Hp) (E : XK) (G : Wd), Room k (A.deeper (PyProof.Rows.envOfC qual (defScope st) s.heap.objs.size f cdv)) →
      MSs (cxOf (L2.CX P w) P w K mg base N qual (defScope st) f cdv A outer s H E) (zOf K mg G E) (defBody st) d) :
    FnOk P w K mg base (L2.CX P w) (k + 1) f fd ps (spD K mg ps.length (runD N.length ps.length d)) := by
  refine F.okX S (fun vs H Q E h => ?_) fun cdv A outer s H vs Q E hr h => ?_
  · obtain ⟨_, _, _, _, _, _, _, e, _⟩ := h
    exact e
  · obtain ⟨G, qs, S', e, r, rs, su, hl, hp⟩ := h
    subst e
    refine ⟨_, hbody cdv A outer s _ E G hr, G, qs.map Slot.val ++ List.replicate (N.length - qs.length) Slot.none, S', rfl, start_rep r rs su, ?_⟩
    have hq : qs.length = ps.length := by rw [r.length, hl]
    unfold runD at hp
    rw [if_pos hq, ← hq] at hp
    cases e : d (qs.map Slot.val ++ List.replicate (N.length - qs.length) Slot.none) S' with
    | bad => rw [e] at hp; exact hp.elim
    | raise c w' e1 s1 =>
      rw [e] at hp
      exact fun σ' G' cls dd v m A1 h1 h0 h2 h3 => hp cls dd v G' A1.ent m A1.st A1.sure h1 h0 h2 h3
    | ok f e1 s1 =>
      rw [e] at hp
      cases f with
      | next => exact fun σ' G' m A1 => hp .non G' A1.ent m A1.st A1.sure .non
      | ret p => exact fun v σ' G' m A1 r1 => hp v G' A1.ent m A1.st A1.sure r1
      | brk => exact hp.elim
      | cont => exact hp.elim
/-- a def of the module, by its name -/
structure Df (P : Program) (w : World) (K : PySem.W.Frag) (mg : Str → Option Value) (base : Heap) (k : Nat) (x : Str) (n : Nat) (den : List PV → Stt → Res) : Prop where
  ex : ∃ (f : Addr) (fd : FuncData) (ps : List Str), FnOk P w K mg base (L2.CX P w) k f fd ps (spD K mg n den) ∧ mg x = some (.ref f) ∧ PySem.W.keepIn K (.ref f) = true ∧ Binds K fd ps []
end
/-! ### calls -/
section
variable {X : Cx} {z : Zx} {pos p : Pos}
def dCall (n : Nat) (den : List PV → Stt → Res) (da : Cd (List PV)) : Cd PV := bnd da fun ps => if ps.length = n then fun e s => match den ps s with
  | .ok p s' => .ok p e s'
  | .raise c w s' => .raise c w e s'
  | .bad => .bad
  else fun _ _ => .bad
theorem me_call {k j n : Nat} {x : Str} {den : List PV → Stt → Res} {e : Expr} {es : List Expr} {da : Cd (List PV)} (D : Df X.prog X.w X.K X.mg X.base k x n den) (hr : Room j X.A) (tk : Takes X z.W) (ha : MA X z (e :: es) da) (hkj : k ≤ j := by decide) (hK : z.K = X.K := by rfl) (hmg : z.mg = X.mg := by rfl) (hg : Gl X x := by rfl)
    (hdb : (x == ("__debug__" : Str)) = false := by decide) (he : starEach (e :: es) X.env = (false, eval e X.env) :: starEach es X.env := by rfl) (hpl : (backTo pos (starEach es X.env)).any (·.1) = false := by rfl) :
    ME X z (.Call (.Name x p) (e :: es) [] pos) (dCall n den da) := by
  obtain ⟨f, fd, ps, F, hm, hk, hb⟩ := D.ex
  refine (pe_callSD F (hr.mono hkj) hg hm hk hb .nil (passAt tk) ha hdb he hpl).imp fun σ H Q ⟨G, env, S, e, A, P⟩ => ?_
  subst e
  refine toA lwE A P fun qs env1 S1 vs G1 m1 A1 r1 P1 => ?_
  by_cases hl : qs.length = n
  · rw [if_pos hl] at P1
    rw [List.append_nil]
    rw [← hK, ← hmg]
    refine ⟨G1, qs, S1, rfl, r1, A1.st, A1.sure, by rw [← r1.length]; exact hl, ?_⟩
    cases e : den qs S1 with
    | bad => simp only [e] at P1; exact P1.elim
    | ok p S2 =>
      simp only [e] at P1
      exact fun v G' en m s su r => P1 v G' m (A1.call en m s su) r
    | raise c w S2 =>
      simp only [e] at P1
      exact fun cls d v G' en m s su h1 h0 h2 r => P1 σ G' cls d v m (A1.call en m s su) h1 (A1.ent.there d h0) h2 r
  · rw [if_neg hl] at P1
    exact P1.elim
end
/-! ### raise -/
/-- __init__ of the base class of the errors: self.what = what -/
def spInit (K : PySem.W.Frag) : Sp := fun vs H Q _ => ∃ (a C : Addr) (v : V), vs = [.ref a, v] ∧ H a = some (exo a C none) ∧ OexC K C ∧ PySem.W.findIn K (.ref C) "what" = some none ∧
  ∀ dx, H dx = none → dx ≠ a → Q .non (upd (upd H dx (exd dx [(("what" : Str), v)])) a (exo a C (some dx)))
section
variable {P : Program} {w : World} {K : PySem.W.Frag} {mg : Str → Option Value} {base : Heap}
theorem init_ok {qual : Str} {st : Stmt} {f : Addr} {fd : FuncData} {p1 p2 p3 p4 : Pos} (F : Fun K "__init__" qual st f fd) (S : FnScope ["self", "what"] ["self", "what"] (defScope st)) (hb : defBody st = [.Assign [.Attribute (.Name "self" p1) "what" p2] (.Name "what" p3) p4])
    (hs : (defScope st).names.lookup ("self" : Str) = some .local) (hw : (defScope st).names.lookup ("what" : Str) = some .local) : FnOk P w K mg base CX0 1 f fd ["self", "what"] (spInit K) := by
  refine F.ok S (fun vs H Q E h => ?_) fun cdv A outer s H vs Q E hr h => ?_
  · obtain ⟨a, C, v, rfl, _⟩ := h
    rfl
  · obtain ⟨a, C, v, rfl, ha, T, hn, k⟩ := h
    rw [hb]
    refine ⟨_, pss_one (ps_ost (pe_var (i := 0) rfl (.inl hs)) (pe_var (i := 1) rfl (.inl hw))), ?_⟩
    exact ⟨v, rfl, .ref a, rfl, a, C, rfl, T, hn, .inl ⟨ha, fun dx h1 h2 => k dx h1 h2⟩⟩
end
/-- what the written part says of an error's class -/
structure ErC (P : Program) (w : World) (K : PySem.W.Frag) (mg : Str → Option Value) (base : Heap) (c : Str) : Prop where
  ex : ∃ (C fI : Addr) (fd : FuncData) (ps : List Str), mg c = some (.ref C) ∧ OexC K C ∧ PySem.W.findIn K (.ref C) "__init__" = some (some (.ref fI)) ∧ PySem.W.typeIn K (.ref fI) = some (.type "function") ∧
    PySem.W.findIn K (.ref C) "what" = some none ∧ FnOk P w K mg base CX0 1 fI fd ps (spInit K) ∧ Binds K fd ps []
section
variable {X : Cx} {z : Zx} {pos p pos2 : Pos}
def dRaise (c : Str) (d : Cd PV) : Cd Flw := bnd d fun p => fun e s => .raise c p e s
theorem ms_raise {j : Nat} {c : Str} {e : Expr} {d : Cd PV} (T : ErC X.prog X.w X.K X.mg X.base c) (hr : Room j X.A) (tk : Takes X z.W) (he : ME X z e d) (hkj : 2 ≤ j := by decide) (hmg : z.mg = X.mg := by rfl) (hc : X.calm = true := by rfl) (hg : Gl X c := by rfl)
    (hdb : (c == ("__debug__" : Str)) = false := by decide) (hs : starEach [e] X.env = (false, eval e X.env) :: starEach [] X.env := by rfl) (hpl : (backTo pos (starEach [] X.env)).any (·.1) = false := by rfl) :
    MS X z (.Raise (some (.Call (.Name c p) [e] [] pos)) none pos2) (dRaise c d) := by
  obtain ⟨C, fI, fd, ps, gC, T, iC, tI, nw, F, b⟩ := T.ex
  refine PS.imp (ps_raise hc tk (pmk_oex T iC tI F (hr.mono hkj) b .nil pass0 hg gC (pa_cons he pa_nil hs) hdb hs hpl)) fun D σ H ⟨G, env, S, e, A, P⟩ => ?_
  subst e
  refine toE lwS A P fun p env1 S1 v G1 m1 A1 r1 P1 => ?_
  refine ⟨by show 1 ≤ 1000; decide, fun a ha => ⟨a, C, v, rfl, upd_same, T, nw, fun dx hd hne => ?_⟩⟩
  have hd1 : G1.H dx = none := by rw [upd_ne hne] at hd; exact hd
  refine ⟨rfl, dx, [(("what" : Str), v)], upd_same, ?_, hd1, ?_⟩
  · rw [upd_ne hne]
    exact upd_same
  · have eq : upd (del (upd (upd (upd G1.H a (exo a C none)) dx (exd dx [(("what" : Str), v)])) a (exo a C (some dx))) a) dx (.xd [(("what" : Str), v)]) = upd G1.H dx (.xd [(("what" : Str), v)]) := by
      funext b
      by_cases h1 : b = dx
      · rw [h1, upd_same, upd_same]
      · rw [upd_ne h1, upd_ne h1]
        by_cases h2 : b = a
        · rw [h2, del_same, ha]
        · rw [del_ne h2, upd_ne h2, upd_ne h1, upd_ne h2]
    rw [eq]
    have M : Mon G1 (G1.fresh dx (.xd [(("what" : Str), v)])) := (Ext.fresh hd1).mon A1.sure
    exact P1 σ (G1.fresh dx (.xd [(("what" : Str), v)])) (.ref C) dx v M (A1.fresh hd1) (by rw [hmg]; exact gC) (A1.ent.there dx (.inl hd1)) upd_same (r1.mon M)
end
end FS
set_option Elab.async false
set_option linter.all false
set_option maxRecDepth 100000
/-! FsOps: operators, comparisons, subscripts, slices, built-ins, walks. -/
namespace FS
open PySem PySem.Spec L2
/-! ### data -/
mutual
def PV.toD : PV → PyData
  | .non => .none
  | .bl b => .bool b
  | .int i => .int i
  | .str x => .str x
  | .tup xs => .tuple (toDs xs)
  | .tuz xs => .tuple (toDs xs)
  | .lst xs => .list (toDs xs)
  | .scr ns => .list (ns.map PyData.int)
  | .ref _ => .none
  | .raw _ => .none
  | .dic _ _ => .none
def toDs : List PV → List PyData
  | [] => []
  | x :: xs => x.toD :: toDs xs
end
/-- plain data, of a bounded depth -/
def okd : Nat → PV → Bool
  | _, .non => true
  | _, .bl _ => true
  | _, .int _ => true
  | _, .str x => PyData.strOk x
  | k + 1, .tup xs => xs.all (okd k)
  | k + 1, .tuz xs => xs.all (okd k)
  | k + 1, .lst xs => xs.all (okd k)
  | _ + 1, .scr _ => true
  | _, _ => false
theorem ints_lay : ∀ ns : List Int, PyData.canLayAll0 (ns.map PyData.int) = true ∧ PyData.depthAll (ns.map PyData.int) = 0
  | [] => ⟨rfl, rfl⟩
  | n :: ns => by
    obtain ⟨h1, h2⟩ := ints_lay ns
    constructor
    · simp [PyData.canLayAll0, PyData.canLay0, h1]
    · simp [PyData.depthAll, PyData.depth, h2]
theorem toDs_lay {k : Nat} (ih : ∀ p, okd k p = true → p.toD.canLay0 = true ∧ p.toD.depth ≤ k) : ∀ xs : List PV, xs.all (okd k) = true → PyData.canLayAll0 (toDs xs) = true ∧ PyData.depthAll (toDs xs) ≤ k
  | [], _ => ⟨rfl, Nat.zero_le _⟩
  | x :: xs, h => by
    rw [List.all_cons, Bool.and_eq_true] at h
    obtain ⟨h1, h2⟩ := ih x h.1
    obtain ⟨h3, h4⟩ := toDs_lay ih xs h.2
    constructor
    · simp [toDs, PyData.canLayAll0, h1, h3]
    · simp only [toDs, PyData.depthAll]
      omega
theorem okd_lay : ∀ (k : Nat) (p : PV), okd k p = true → p.toD.canLay0 = true ∧ p.toD.depth ≤ k := by
  intro k
  induction k with
  | zero =>
    intro p h
    cases p <;> first | exact ⟨rfl, Nat.zero_le _⟩ | exact ⟨h, Nat.zero_le _⟩ | (simp [okd] at h)
  | succ k ih =>
    intro p h
    cases p with
    | non => exact ⟨rfl, Nat.zero_le _⟩
    | bl b => exact ⟨rfl, Nat.zero_le _⟩
    | int i => exact ⟨rfl, Nat.zero_le _⟩
    | str x => exact ⟨h, Nat.zero_le _⟩
    | tup xs =>
      obtain ⟨h1, h2⟩ := toDs_lay ih xs h
      exact ⟨by simpa [PV.toD, PyData.canLay0] using h1, by simp only [PV.toD, PyData.depth]; omega⟩
    | lst xs =>
      obtain ⟨h1, h2⟩ := toDs_lay ih xs h
      exact ⟨by simpa [PV.toD, PyData.canLay0] using h1, by simp only [PV.toD, PyData.depth]; omega⟩
    | scr ns =>
      obtain ⟨h1, h2⟩ := ints_lay ns
      exact ⟨by simpa [PV.toD, PyData.canLay0] using h1, by simp only [PV.toD, PyData.depth]; omega⟩
    | ref n => simp [okd] at h
    | raw v => simp [okd] at h
    | dic ks xs => simp [okd] at h
    | tuz xs =>
      obtain ⟨h1, h2⟩ := toDs_lay ih xs h
      exact ⟨by simpa [PV.toD, PyData.canLay0] using h1, by simp only [PV.toD, PyData.depth]; omega⟩
theorem okd_shaped {p : PV} (h : okd 60 p = true) : SeqAt.shaped p.toD = true := by
  obtain ⟨h1, h2⟩ := okd_lay 60 p h
  unfold SeqAt.shaped
  rw [h1, Bool.true_and]
  exact decide_eq_true (by omega)
section
variable {K : PySem.W.Frag} {G : Wd}
theorem dpAll_ints : ∀ ns : List Int, DpAll K G.H (ns.map V.int) (ns.map PyData.int)
  | [] => .nil
  | n :: ns => .cons (.int n) (dpAll_ints ns)
theorem reps_dp {k : Nat} (ih : ∀ p v, okd k p = true → Rep K G p v → Dp K G.H v p.toD) : ∀ (xs : List PV) (vs : List V), xs.all (okd k) = true → RepL K G xs vs → DpAll K G.H vs (toDs xs)
  | [], _, _, .nil => .nil
  | x :: xs, _, h, .cons r rr => by
    rw [List.all_cons, Bool.and_eq_true] at h
    exact .cons (ih x _ h.1 r) (reps_dp ih xs _ h.2 rr)
theorem rep_dp : ∀ (k : Nat) (p : PV) (v : V), okd k p = true → Rep K G p v → Dp K G.H v p.toD := by
  intro k
  induction k with
  | zero =>
    intro p v h r
    cases r with
    | non => exact .non
    | bl b => exact .bl b
    | int i => exact .int i
    | str x => exact .str x
    | _ => simp [okd] at h
  | succ k ih =>
    intro p v h r
    cases p with
    | non => cases r; exact .non
    | bl b => cases r; exact .bl b
    | int i => cases r; exact .int i
    | str x => cases r; exact .str x
    | tup xs =>
      obtain ⟨a, vs, rfl, q, rr⟩ := r.sqT
      exact .tup q (reps_dp ih xs vs h rr)
    | lst xs =>
      obtain ⟨a, vs, rfl, q, rr⟩ := r.sqL
      exact .lst (SqL.of q) (reps_dp ih xs vs h rr)
    | scr ns =>
      obtain ⟨a, rfl, q⟩ := r.sqS
      exact .lst q (dpAll_ints ns)
    | ref n => simp [okd] at h
    | raw v => simp [okd] at h
    | dic ks xs => simp [okd] at h
    | tuz xs =>
      obtain ⟨a, vs, rfl, q, rr⟩ := r.sqZ
      exact .tup q (reps_dp ih xs vs h rr)
/-- a shared list's content -/
def res (S : Stt) : PV → PV
  | .ref n => match S[n]? with
    | some (.lst xs) => .lst xs
    | some (.dct _ _) => .ref n
    | some (.ins _ _) => .ref n
    | none => .non
  | p => p
theorem res_dp {S : Stt} {p : PV} {v : V} (s : RepS K G S) (r : Rep K G p v) (h : okd 60 (res S p) = true) (hn : ∀ n, p = .ref n → S[n]? ≠ none) : Dp K G.H v (res S p).toD := by
  cases p with
  | ref n =>
    unfold res at h ⊢
    cases e : S[n]? with
    | none => exact absurd e (hn n rfl)
    | some o =>
      cases o with
      | lst xs =>
        simp only [e] at h ⊢
        obtain ⟨a, vs, rfl, _, q, rr⟩ := r.sqR s e
        exact .lst (SqL.of q) (reps_dp (rep_dp 59) xs vs h rr)
      | dct lk kvs => simp only [e] at h; cases h
      | ins c fs => simp only [e] at h; cases h
  | _ => exact rep_dp 60 _ _ h r
end
/-- == of data -/
def eqv (p q : PV) : Bool := PyData.eqv p.toD q.toD
def seen (S : Stt) : PV → Bool
  | .ref n => (S[n]?).isSome
  | _ => true
def pEq (S : Stt) (p q : PV) : Option PV := if (okd 60 (res S p) && okd 60 (res S q) && seen S p && seen S q) = true then some (.bl (eqv (res S p) (res S q))) else none
def pNe (S : Stt) (p q : PV) : Option PV := if (okd 60 (res S p) && okd 60 (res S q) && seen S p && seen S q) = true then some (.bl (!eqv (res S p) (res S q))) else none
theorem seen_ne {S : Stt} {p : PV} (h : seen S p = true) : ∀ n, p = .ref n → S[n]? ≠ none := fun n e z => by
  subst e
  have q : (S[n]?).isSome = true := h
  rw [z] at q
  cases q
theorem sure_frozen {G : Wd} {a : Addr} {o : HO} (su : Sure G) (hn : G.H a = none) (nt : NT o := by intro _ e; cases e) : Sure (G.frozen a o) := (Ext.frozen hn).sure su fun b hb => hb.elim .inl fun e => .inr ⟨o, by subst e; exact upd_same, nt⟩
section
variable {X : Cx} {z : Zx}
theorem op_pEq {j : Nat} (hr : Room j X.A) (hK : z.K = X.K := by rfl) : OpD X z (compareOp .Eq) pEq := by
  refine ⟨_, op_eqD hr.units, fun G S p q w x y Q e s su rp rq h => ?_⟩
  unfold pEq at e
  split at e
  · rename_i hc
    simp only [Bool.and_eq_true] at hc
    obtain ⟨⟨⟨h1, h2⟩, h3⟩, h4⟩ := hc
    cases e
    rw [hK] at s rp rq
    exact ⟨_, _, res_dp s rp h1 (seen_ne h3), res_dp s rq h2 (seen_ne h4), okd_shaped h1, okd_shaped h2, h _ G (.refl G) su (.bl _)⟩
  · cases e
theorem op_pNe {j : Nat} (hr : Room j X.A) (hK : z.K = X.K := by rfl) : OpD X z (compareOp .NotEq) pNe := by
  refine ⟨_, op_neD hr.units, fun G S p q w x y Q e s su rp rq h => ?_⟩
  unfold pNe at e
  split at e
  · rename_i hc
    simp only [Bool.and_eq_true] at hc
    obtain ⟨⟨⟨h1, h2⟩, h3⟩, h4⟩ := hc
    cases e
    rw [hK] at s rp rq
    exact ⟨_, _, res_dp s rp h1 (seen_ne h3), res_dp s rq h2 (seen_ne h4), okd_shaped h1, okd_shaped h2, h _ G (.refl G) su (.bl _)⟩
  · cases e
/-- ints by ints -/
def iI (C : Int → Int → Bool) (g : Int → Int → PV) : Stt → PV → PV → Option PV := fun _ p q => match p, q with
  | .int i, .int j => if C i j = true then some (g i j) else none
  | _, _ => none
theorem op_iI {g : Value → Value → Sem Value} {C : Int → Int → Bool} {C' : Int → Int → Prop} {k : Int → Int → Int} (o : OpR X g (rI C' fun i j => .int (k i j))) (hC : ∀ i j, C i j = true → C' i j) : OpD X z g (iI C fun i j => .int (k i j)) := by
  refine ⟨_, o, fun G S p q w x y Q e s su rp rq h => ?_⟩
  cases p with
  | int i =>
    cases q with
    | int j =>
      have e' : (if C i j = true then some (PV.int (k i j)) else none) = some w := e
      by_cases hc : C i j = true
      · rw [if_pos hc] at e'
        cases e'
        cases rp
        cases rq
        exact ⟨i, j, rfl, rfl, hC _ _ hc, h _ G (.refl G) su (.int _)⟩
      · rw [if_neg hc] at e'
        cases e'
    | _ => cases e
  | _ => cases e
theorem op_iB {g : Value → Value → Sem Value} {k : Int → Int → Bool} (o : OpR X g (rI0 fun i j => .bl (k i j))) : OpD X z g (iI (fun _ _ => true) fun i j => .bl (k i j)) := by
  refine ⟨_, o, fun G S p q w x y Q e s su rp rq h => ?_⟩
  cases p with
  | int i =>
    cases q with
    | int j =>
      cases (show some (PV.bl (k i j)) = some w from e)
      cases rp
      cases rq
      exact ⟨i, j, rfl, rfl, h _ G (.refl G) su (.bl _)⟩
    | _ => cases e
  | _ => cases e
theorem op_i0 {g : Value → Value → Sem Value} {k : Int → Int → Int} (o : OpR X g (rI0 fun i j => .int (k i j))) : OpD X z g (iI (fun _ _ => true) fun i j => .int (k i j)) := by
  refine ⟨_, o, fun G S p q w x y Q e s su rp rq h => ?_⟩
  cases p with
  | int i =>
    cases q with
    | int j =>
      cases (show some (PV.int (k i j)) = some w from e)
      cases rp
      cases rq
      exact ⟨i, j, rfl, rfl, h _ G (.refl G) su (.int _)⟩
    | _ => cases e
  | _ => cases e
def pSub := iI (fun _ _ => true) fun i j => .int (i - j)
def pLt := iI (fun _ _ => true) fun i j => .bl (decide (i < j))
def pLe := iI (fun _ _ => true) fun i j => .bl (decide (i ≤ j))
def pGt := iI (fun _ _ => true) fun i j => .bl (decide (j < i))
def pGe := iI (fun _ _ => true) fun i j => .bl (decide (j ≤ i))
def pMod := iI (fun _ j => decide (0 < j)) fun i j => .int (i % j)
def okDiv (j : Int) : Bool := decide (0 < j) && decide (j < 1000000000000000000000)
def pDiv := iI (fun _ j => okDiv j) fun i j => .int (i / j)
def okMul (i j : Int) : Bool := (decide (-18446744073709551616 < i) && decide (i < 18446744073709551616)) || (decide (-18446744073709551616 < j) && decide (j < 18446744073709551616))
def okPow (i j : Int) : Bool := decide (0 ≤ j) && decide (j ≤ 1000000) && decide (i.natAbs < 18446744073709551616)
def pPow := iI okPow fun i j => .int (i ^ j.toNat)
theorem op_pSub : OpD X z (binaryOp .Sub) pSub := op_i0 op_sub
theorem op_pLt : OpD X z (compareOp .Lt) pLt := op_iB op_lt
theorem op_pLe : OpD X z (compareOp .LtE) pLe := op_iB op_le
theorem op_pGt : OpD X z (compareOp .Gt) pGt := op_iB op_gt
theorem op_pGe : OpD X z (compareOp .GtE) pGe := op_iB op_ge
theorem op_pMod : OpD X z (binaryOp .Mod) pMod := op_iI (C := fun _ j => decide (0 < j)) op_mod fun i j h => of_decide_eq_true h
theorem op_pDiv : OpD X z (binaryOp .FloorDiv) pDiv := op_iI (C := fun _ j => okDiv j) op_fdivW fun i j h => by
  unfold okDiv at h
  simp only [Bool.and_eq_true, decide_eq_true_eq] at h
  exact wide_div (b := 80) h.1 (by
    have : j.natAbs < 1000000000000000000000 := by omega
    exact Nat.lt_of_lt_of_le this (by decide)) (by decide) (by decide)
theorem op_pPow : OpD X z (binaryOp .Pow) pPow := op_iI op_pow fun i j h => by
  unfold okPow at h
  simp only [Bool.and_eq_true, decide_eq_true_eq] at h
  exact ⟨h.1.1, h.1.2, Nat.lt_of_lt_of_le h.2 (by decide)⟩
def pMulI := iI okMul fun i j => .int (i * j)
theorem op_pMulI : OpD X z (binaryOp .Mult) pMulI := op_iI op_mul fun i j h => by
  unfold okMul at h
  simp only [Bool.or_eq_true, Bool.and_eq_true, decide_eq_true_eq] at h
  have e : (2 : Int) ^ 64 = 18446744073709551616 := by decide
  rcases h with h | h
  · exact .inl (by rw [e]; exact h)
  · exact .inr (by rw [e]; exact h)
/-- list * int: a new list as a value; tuple * int -/
def pMulL : Stt → PV → PV → Option PV := fun _ p q => match p, q with
  | .lst xs, .int k => if k < 1048576 ∧ -1048576 < k ∧ xs.length * k.toNat ≤ sizeLine then some (.lst (List.replicate k.toNat xs).flatten) else none
  | _, _ => none
theorem op_pMulL (hK : z.K = X.K := by rfl) : OpD X z (binaryOp .Mult) pMulL := by
  refine ⟨_, op_rep, fun G S p q w x y Q e s su rp rq h => ?_⟩
  cases p with
  | lst xs =>
    cases q with
    | int k =>
      simp only [pMulL] at e
      split at e
      · rename_i hc
        cases e
        cases rq
        obtain ⟨a, vs, rfl, q, rr⟩ := rp.sqL
        have e2 : (2 : Int) ^ 63 = 9223372036854775808 := by decide
        refine ⟨a, k, vs, rfl, rfl, q, by rw [e2]; omega, by rw [e2]; omega, by rw [← rr.length]; exact hc.2.2, fun p hn => ?_⟩
        have M := (Ext.frozen (o := .lst (List.replicate k.toNat vs).flatten) hn).mon su
        exact h (.ref p) (G.frozen p (.lst (List.replicate k.toNat vs).flatten)) (Ext.frozen hn) (sure_frozen su hn) (.lst (.inr rfl) upd_same ((rr.rep k.toNat).mon M))
      · cases e
    | _ => cases e
  | _ => cases e
def pMul (S : Stt) (p q : PV) : Option PV := (pMulI S p q).or (pMulL S p q)
theorem op_pMul (hK : z.K = X.K := by rfl) : OpD X z (binaryOp .Mult) pMul := op_pMulI.or (op_pMulL hK)
/-- + of ints, texts, tuples, lists -/
def pAddI := iI (fun _ _ => true) fun i j => .int (i + j)
def pAddS : Stt → PV → PV → Option PV := fun _ p q => match p, q with
  | .str x, .str y => if x.length + y.length ≤ sizeLine then some (.str (x ++ y)) else none
  | .tup xs, .tup ys => if xs.length + ys.length ≤ sizeLine then some (.tup (xs ++ ys)) else none
  | .lst xs, .lst ys => if xs.length + ys.length ≤ sizeLine then some (.lst (xs ++ ys)) else none
  | _, _ => none
theorem repL_nil {K : PySem.W.Frag} {G : Wd} {xs : List PV} {vs : List V} (r : RepL K G xs vs) : vs = [] → xs = [] := fun e => by
  subst e
  cases r
  rfl
theorem op_pAddS (hK : z.K = X.K := by rfl) : OpD X z (binaryOp .Add) pAddS := by
  refine ⟨_, (op_add_str.or op_catN).or op_cat, fun G S p q w x y Q e s su rp rq h => ?_⟩
  cases p with
  | str x =>
    cases q with
    | str y =>
      simp only [pAddS] at e
      split at e
      · rename_i hc
        cases e
        cases rp
        cases rq
        exact .inl (.inl ⟨_, _, rfl, rfl, hc, h _ G (.refl G) su (.str _)⟩)
      · cases e
    | _ => cases e
  | tup xs =>
    cases q with
    | tup ys =>
      simp only [pAddS] at e
      split at e
      · rename_i hc
        cases e
        obtain ⟨a, vs, rfl, q1, r1⟩ := rp.sqT
        obtain ⟨b, ws, rfl, q2, r2⟩ := rq.sqT
        refine .inl (.inr ⟨a, b, vs, ws, rfl, rfl, by rw [← hK]; exact q1, by rw [← hK]; exact q2, by rw [← r1.length, ← r2.length]; exact hc, fun e => ?_, fun _ e => ?_, fun _ _ p o hn ho => ?_⟩)
        · have := repL_nil r1 e
          subst this
          exact h _ G (.refl G) su rq
        · have := repL_nil r2 e
          subst this
          exact h _ G (.refl G) su (by rw [List.append_nil]; exact rp)
        · have M := (Ext.frozen (o := .frz o (.tup (vs ++ ws))) hn).mon su
          exact h (.ref p) (G.frozen p (.frz o (.tup (vs ++ ws)))) (Ext.frozen hn) (sure_frozen su hn) (.tup (.inl ⟨.inr rfl, o, ho, upd_same⟩) ((r1.append r2).mon M))
      · cases e
    | _ => cases e
  | lst xs =>
    cases q with
    | lst ys =>
      simp only [pAddS] at e
      split at e
      · rename_i hc
        cases e
        obtain ⟨a, vs, rfl, q1, r1⟩ := rp.sqL
        obtain ⟨b, ws, rfl, q2, r2⟩ := rq.sqL
        refine .inr ⟨a, b, vs, ws, rfl, rfl, q1, q2, by rw [← r1.length, ← r2.length]; exact hc, fun p hn => ?_⟩
        have M := (Ext.frozen (o := .lst (vs ++ ws)) hn).mon su
        exact h (.ref p) (G.frozen p (.lst (vs ++ ws))) (Ext.frozen hn) (sure_frozen su hn) (.lst (.inr rfl) upd_same ((r1.append r2).mon M))
      · cases e
    | _ => cases e
  | _ => cases e
def pAdd (S : Stt) (p q : PV) : Option PV := (pAddI S p q).or (pAddS S p q)
theorem op_pAdd (hK : z.K = X.K := by rfl) : OpD X z (binaryOp .Add) pAdd := (op_i0 op_add).or (op_pAddS hK)
/-- is None -/
def pIs : Stt → PV → PV → Option PV := fun _ p q => match q, p with
  | .non, .non => some (.bl true)
  | .non, .raw _ => none
  | .non, _ => some (.bl false)
  | _, _ => none
theorem op_pIs : OpD X z (compareOp .Is) pIs := by
  refine ⟨_, op_isN, fun G S p q w x y Q e s su rp rq h => ?_⟩
  cases q with
  | non =>
    cases rq
    cases rp <;> first
      | (cases e; exact ⟨rfl, h _ G (.refl G) su (.bl _)⟩)
      | (cases e; done)
  | _ => cases p <;> cases e
/-- in, over a list of data -/
def pIn : Stt → PV → PV → Option PV := fun _ p q => match q with
  | .lst xs => if (okd 60 p && okd 60 (.lst xs)) = true then some (.bl (xs.any fun y => eqv y p)) else none
  | _ => none
def pNotIn : Stt → PV → PV → Option PV := fun _ p q => match q with
  | .lst xs => if (okd 60 p && okd 60 (.lst xs)) = true then some (.bl (!xs.any fun y => eqv y p)) else none
  | _ => none
theorem any_toDs (p : PV) : ∀ xs : List PV, (toDs xs).any (fun y => PyData.eqv y p.toD) = xs.any fun y => eqv y p
  | [] => rfl
  | x :: xs => by
    simp only [toDs, List.any_cons, any_toDs p xs]
    rfl
theorem op_pIn {j : Nat} (hr : Room j X.A) (hK : z.K = X.K := by rfl) : OpD X z (compareOp .In) pIn := by
  refine ⟨_, op_inD (by have := hr.un; omega), fun G S p q w x y Q e s su rp rq h => ?_⟩
  cases q with
  | lst xs =>
    simp only [pIn] at e
    split at e
    · rename_i hc
      rw [Bool.and_eq_true] at hc
      cases e
      rw [hK] at s rp rq
      exact ⟨_, _, rep_dp 60 _ _ hc.1 rp, rep_dp 60 _ _ hc.2 rq, okd_shaped hc.1, okd_shaped hc.2, by rw [any_toDs]; exact h _ G (.refl G) su (.bl _)⟩
    · cases e
  | _ => cases e
theorem op_pNotIn {j : Nat} (hr : Room j X.A) (hK : z.K = X.K := by rfl) : OpD X z (compareOp .NotIn) pNotIn := by
  refine ⟨_, op_notInD (by have := hr.un; omega), fun G S p q w x y Q e s su rp rq h => ?_⟩
  cases q with
  | lst xs =>
    simp only [pNotIn] at e
    split at e
    · rename_i hc
      rw [Bool.and_eq_true] at hc
      cases e
      rw [hK] at s rp rq
      exact ⟨_, _, rep_dp 60 _ _ hc.1 rp, rep_dp 60 _ _ hc.2 rq, okd_shaped hc.1, okd_shaped hc.2, by rw [any_toDs]; exact h _ G (.refl G) su (.bl _)⟩
    · cases e
  | _ => cases e
/-! ### subscripts, slices -/
variable {pos p2 : Pos} {a b : Expr} {da db : Cd PV}
theorem atI_rep {K : PySem.W.Frag} {G : Wd} {ps : List PV} {vs : List V} {i : Int} {p : PV} (r : RepL K G ps vs) (h : atI ps i = some p) : ∃ v, atI vs i = some v ∧ Rep K G p v := by
  unfold atI at h ⊢
  rw [← r.length]
  cases e : ixN ps.length i with
  | none => rw [e] at h; cases h
  | some j =>
    rw [e] at h
    obtain ⟨v, e1, r1⟩ := r.get (i := j) h
    exact ⟨v, e1, r1⟩
def pIx (S : Stt) (p q : PV) : Option PV := match res S p, q with
  | .tup xs, .int i => atI xs i
  | .lst xs, .int i => atI xs i
  | .scr ns, .int i => (atI ns i).map PV.int
  | .str z, .int i => if z.length ≤ sizeLine then (atI z.cps.toList i).map fun c => PV.str ⟨#[c]⟩ else none
  | _, _ => none
theorem atI_map {α β : Type} (f : α → β) (xs : List α) (i : Int) : atI (xs.map f) i = (atI xs i).map f := by
  unfold atI
  rw [List.length_map]
  cases ixN xs.length i with
  | none => rfl
  | some j => simp
theorem ix_rep {K : PySem.W.Frag} {G : Wd} {S : Stt} {p q w : PV} {x y : V} {Q : VK} (h : pIx S p q = some w) (s : RepS K G S) (rp : Rep K G p x) (rq : Rep K G q y) (k : ∀ v, Rep K G w v → Q v G.H) : rIx K x y G.H Q := by
  cases q with
  | int i =>
    cases rq
    cases p with
    | tup xs =>
      obtain ⟨a, vs, rfl, q, r⟩ := rp.sqT
      obtain ⟨v, e, r1⟩ := atI_rep r h
      exact .inr (.inl ⟨a, vs, i, v, rfl, rfl, q, e, k v r1⟩)
    | lst xs =>
      obtain ⟨a, vs, rfl, q, r⟩ := rp.sqL
      obtain ⟨v, e, r1⟩ := atI_rep r h
      exact .inl ⟨a, vs, i, v, rfl, rfl, SqL.of q, e, k v r1⟩
    | scr ns =>
      obtain ⟨a, rfl, q⟩ := rp.sqS
      cases e : atI ns i with
      | none =>
        have h' : (atI ns i).map PV.int = some w := h
        rw [e] at h'; cases h'
      | some n =>
        have h' : (atI ns i).map PV.int = some w := h
        rw [e] at h'
        cases h'
        exact .inl ⟨a, _, i, .int n, rfl, rfl, q, by rw [atI_map, e]; rfl, k _ (.int n)⟩
    | str z =>
      cases rp
      simp only [pIx, res] at h
      split at h
      · rename_i hl
        cases e : atI z.cps.toList i with
        | none => rw [e] at h; cases h
        | some c =>
          rw [e] at h
          cases h
          exact .inr (.inr ⟨z, i, c, rfl, rfl, hl, e, k _ (.str _)⟩)
      · cases h
    | ref n =>
      unfold pIx res at h
      cases e : S[n]? with
      | none => simp only [e] at h; cases h
      | some o =>
        cases o with
        | lst xs =>
          simp only [e] at h
          obtain ⟨a, vs, rfl, _, q, r⟩ := rp.sqR s e
          obtain ⟨v, e1, r1⟩ := atI_rep r h
          exact .inl ⟨a, vs, i, v, rfl, rfl, SqL.of q, e1, k v r1⟩
        | dct lk kvs => simp only [e] at h; cases h
        | ins c fs => simp only [e] at h; cases h
    | _ => cases h
  | _ =>
    unfold pIx at h
    split at h <;> first | cases h | (rename_i h1 h2; cases h2)
theorem me_ix (ha : ME X z a da) (hb : ME X z b db) (hK : z.K = X.K := by rfl) (hs : PlainIx b := by exact fun _ _ => rfl) : ME X z (.Subscript a b pos) (dOp pIx da db) := by
  refine (pe_ix ix_seq ha hb hs).imp fun σ H Q h => ?_
  refine re_op (g := fun _ _ => pure .none) (f := pIx) (r := rIx X.K) (fun G S p q w x y Q e s su rp rq h => ?_) h
  rw [hK] at s rp rq
  exact ix_rep e s rp rq fun v r => h v G (.refl G) su (by rw [hK]; exact r)
/-- the items of xs[lo:hi] -/
def cutP {α : Type} (xs : List α) (lo hi : Option Int) : List α := (xs.drop (HT.sIx xs.length 0 lo)).take (HT.sIx xs.length xs.length hi - HT.sIx xs.length 0 lo)
theorem RepL.cut {K : PySem.W.Frag} {G : Wd} {ps : List PV} {vs : List V} (r : RepL K G ps vs) (lo hi : Option Int) : RepL K G (cutP ps lo hi) (cutV vs lo hi) := by
  unfold cutP cutV
  rw [r.length]
  exact (r.drop _).take _
theorem cut_whole {α : Type} (xs : List α) {lo hi : Option Int} (h : HT.sIx xs.length 0 lo = 0 ∧ HT.sIx xs.length xs.length hi = xs.length) : cutP xs lo hi = xs := by
  unfold cutP
  rw [h.1, h.2]
  simp
def PostO (z : Zx) (G : Wd) (σ : St) (Q : Option Int → Hp → Prop) : Out (Option Int) → Prop
  | .ok o env S => ∀ (G' : Wd), Mon G G' → At z.K z.G0 G' S env σ → Q o G'.H
  | .raise c w env S => ∀ σ', PRaise z G c w env S σ'
  | .bad => False
def RO (z : Zx) (d : Cd (Option Int)) : TO := fun σ H Q => ∃ G env S, G.H = H ∧ At z.K z.G0 G S env σ ∧ PostO z G σ Q (d env S)
abbrev MO (X : Cx) (z : Zx) (e : Option Expr) (d : Cd (Option Int)) : Prop := PO X e (RO z d)
theorem PostO.later {z : Zx} {G G1 : Wd} {σ : St} {Q : Option Int → Hp → Prop} {o : Out (Option Int)} (h : PostO z G σ Q o) (M : Mon G G1) : PostO z G1 σ Q o := by
  cases o with
  | ok p env S => exact fun G' m a => h G' (M.trans m) a
  | raise c w env S => exact fun σ' => (h σ').later M
  | bad => exact h
theorem lwO {z : Zx} {σ : St} {Q : Option Int → Hp → Prop} : Lw z (fun G o => PostO z G σ Q o) := ⟨fun _ _ _ h m => h.later m, fun _ _ _ _ _ h => h, fun _ h => h⟩
theorem toO {β : Type} {F : Wd → Out β → Prop} {G : Wd} {env : Env} {S : Stt} {σ : St} (L : Lw z F) {d : Cd (Option Int)} {k : Option Int → Cd β} {R : Option Int → Hp → Prop} (A : At z.K z.G0 G S env σ) (P : F G (bnd d k env S))
    (h : ∀ o env1 S1 G1, Mon G G1 → At z.K z.G0 G1 S1 env1 σ → F G1 (k o env1 S1) → R o G1.H) : RO z d σ G.H R := by
  refine ⟨G, env, S, rfl, A, ?_⟩
  unfold bnd at P
  cases e : d env S with
  | ok p env1 S1 =>
    rw [e] at P
    exact fun G1 m a => h p env1 S1 G1 m a (L.later _ _ _ P m)
  | raise c w env1 S1 =>
    rw [e] at P
    exact L.rais _ _ _ _ _ P
  | bad =>
    rw [e] at P
    exact (L.bad _ P).elim
def dNoPart : Cd (Option Int) := ret none
def dPart (d : Cd PV) : Cd (Option Int) := bnd d fun p => match p with
  | .int i => ret (some i)
  | _ => fun _ _ => .bad
theorem _root_.L2.PO.imp {e : Option Expr} {t t' : TO} (h : PO X e t) (i : ∀ σ H Q, t' σ H Q → t σ H Q) : PO X e t' := ⟨fun pins s σ H Q I q => h.run pins s σ H Q I (i σ H Q q)⟩
theorem mo_none : MO X z none dNoPart := po_none.imp fun σ H Q ⟨G, env, S, e, A, P⟩ => by
  subst e
  exact P G (Mon.refl _) A
theorem mo_some {d : Cd PV} (h : ME X z a d) : MO X z (some a) (dPart d) := (po_some h).imp fun σ H Q ⟨G, env, S, e, A, P⟩ => by
  subst e
  refine toE lwO A P fun p env1 S1 v G1 m1 A1 r1 P1 => ?_
  cases p with
  | int i =>
    cases r1
    exact ⟨i, rfl, P1 G1 (Mon.refl _) A1⟩
  | _ => exact P1.elim
def pCut (S : Stt) (p : PV) (lo hi : Option Int) : Option PV := match res S p with
  | .tup xs => some (.tup (cutP xs lo hi))
  | .lst xs => some (.lst (cutP xs lo hi))
  | .scr ns => some (.lst ((cutP ns lo hi).map PV.int))
  | _ => none
def dCut (d : Cd PV) (lo hi : Cd (Option Int)) : Cd PV := bnd d fun p => bnd lo fun l => bnd hi fun h => fun e s => match pCut s p l h with
  | some w => .ok w e s
  | none => .bad
theorem cutP_map {α β : Type} (f : α → β) (xs : List α) (lo hi : Option Int) : cutP (xs.map f) lo hi = (cutP xs lo hi).map f := by
  unfold cutP
  rw [List.length_map, List.map_take, List.map_drop]
theorem cut_rep {K : PySem.W.Frag} {G : Wd} {S : Stt} {p w : PV} {lo hi : Option Int} {x : V} {Q : VK} (h : pCut S p lo hi = some w) (s : RepS K G S) (su : Sure G) (rp : Rep K G p x) (k : ∀ v G', Ext G G' → Sure G' → Rep K G' w v → Q v G'.H) :
    rSlN K x lo hi G.H Q ∨ rSlL K x lo hi G.H Q := by
  have newL : ∀ (a : Addr) (vs : List V) (xs : List PV), SqL K G.H a vs → RepL K G xs vs → w = .lst (cutP xs lo hi) → rSlL K (.ref a) lo hi G.H Q := fun a vs xs q r e => by
    refine ⟨a, vs, rfl, q, fun p hn => ?_⟩
    subst e
    have M := (Ext.frozen (o := .lst (cutV vs lo hi)) hn).mon su
    exact k (.ref p) (G.frozen p (.lst (cutV vs lo hi))) (Ext.frozen hn) (sure_frozen su hn) (.lst (.inr rfl) upd_same ((r.cut lo hi).mon M))
  cases p with
  | tup xs =>
    cases h
    obtain ⟨a, vs, rfl, q, r⟩ := rp.sqT
    refine .inl ⟨a, vs, rfl, q, fun hw => ?_, fun _ p o hn ho => ?_⟩
    · rw [← r.length] at hw
      rw [cut_whole xs hw] at k
      exact k _ G (.refl G) su rp
    · have M := (Ext.frozen (o := .frz o (.tup (cutV vs lo hi))) hn).mon su
      exact k (.ref p) (G.frozen p (.frz o (.tup (cutV vs lo hi)))) (Ext.frozen hn) (sure_frozen su hn) (.tup (.inl ⟨.inr rfl, o, ho, upd_same⟩) ((r.cut lo hi).mon M))
  | lst xs =>
    cases h
    obtain ⟨a, vs, rfl, q, r⟩ := rp.sqL
    exact .inr (newL a vs xs (SqL.of q) r rfl)
  | scr ns =>
    cases h
    obtain ⟨a, rfl, q⟩ := rp.sqS
    exact .inr (newL a _ _ q (RepL.ints ns) (by rw [cutP_map]))
  | ref n =>
    unfold pCut res at h
    cases e : S[n]? with
    | none => simp only [e] at h; cases h
    | some o =>
      cases o with
      | lst xs =>
        simp only [e] at h
        cases h
        obtain ⟨a, vs, rfl, _, q, r⟩ := rp.sqR s e
        exact .inr (newL a vs xs (SqL.of q) r rfl)
      | dct lk kvs => simp only [e] at h; cases h
      | ins c fs => simp only [e] at h; cases h
  | _ => cases h
theorem me_cut {d : Cd PV} {lo hi : Option Expr} {dl dh : Cd (Option Int)} (h : ME X z a d) (hl : MO X z lo dl) (hh : MO X z hi dh) (hK : z.K = X.K := by rfl) : ME X z (.Subscript a (.Slice lo hi none p2) pos) (dCut d dl dh) := by
  refine (pe_slice (sl_tupN.or sl_list) h hl hh).imp fun σ H Q ⟨G, env, S, e, A, P⟩ => ?_
  subst e
  refine toE lwE A P fun p env1 S1 v G1 m1 A1 r1 P1 => toO lwE A1 P1 fun l env2 S2 G2 m2 A2 P2 => toO lwE A2 P2 fun u env3 S3 G3 m3 A3 P3 => ?_
  cases e : pCut S3 p l u with
  | none => simp only [e] at P3; exact P3.elim
  | some w =>
    simp only [e] at P3
    rw [← hK]
    exact cut_rep e A3.st A3.sure (r1.mon (m2.trans m3)) fun v G' x su r => P3 v G' (x.mon A3.sure) (A3.ext x su) r
/-! ### calls of built-ins -/
def CallD (X : Cx) (z : Zx) (f : Value) (g : Stt → List PV → Option PV) : Prop :=
  ∃ r : List V → Hp → VK → Prop, CallR X f r ∧ ∀ (G : Wd) (S : Stt) (ps : List PV) (w : PV) (vs : List V) (Q : VK), g S ps = some w → RepS z.K G S → Sure G → RepL z.K G ps vs →
    (∀ v G', Ext G G' → Sure G' → Rep z.K G' w v → Q v G'.H) → r vs G.H Q
def dFn (g : Stt → List PV → Option PV) (d : Cd (List PV)) : Cd PV := bnd d fun ps => fun e s => match g s ps with
  | some w => .ok w e s
  | none => .bad
variable {e : Expr} {es : List Expr} {d : Cd (List PV)} {p : Pos} {x : Str}
theorem ra_fn {f : Value} {g : Stt → List PV → Option PV} {r : List V → Hp → VK → Prop} {σ : St} {H : Hp} {Q : VK}
    (k : ∀ (G : Wd) (S : Stt) (ps : List PV) (w : PV) (vs : List V) (Q : VK), g S ps = some w → RepS z.K G S → Sure G → RepL z.K G ps vs → (∀ v G', Ext G G' → Sure G' → Rep z.K G' w v → Q v G'.H) → r vs G.H Q)
    (h : RE z (dFn g d) σ H Q) : tCB r (RA z d) σ H Q := by
  obtain ⟨G, env, S, e, A, P⟩ := h
  subst e
  refine toA lwE A P fun ps env1 S1 vs G1 m1 A1 r1 P1 => ?_
  cases e : g S1 ps with
  | none => simp only [e] at P1; exact P1.elim
  | some w =>
    simp only [e] at P1
    exact k G1 S1 ps w vs Q e A1.st A1.sure r1 fun v G' xx su rv => P1 v G' (xx.mon A1.sure) (A1.ext xx su) rv
theorem me_blt {id : String} {g : Stt → List PV → Option PV} (c : CallD X z (.builtin id) g) (hm : X.mg x = none) (ha : MA X z (e :: es) d) (hv : bootBuiltins x = some (.builtin id) := by decide +kernel) (hg : Gl X x := by rfl) (hn : x ≠ "__name__" := by decide) (hdb : (x == ("__debug__" : Str)) = false := by decide)
    (he : starEach (e :: es) X.env = (false, eval e X.env) :: starEach es X.env := by rfl) (hpl : (backTo pos (starEach es X.env)).any (·.1) = false := by rfl) : ME X z (.Call (.Name x p) (e :: es) [] pos) (dFn g d) := by
  obtain ⟨r, c, k⟩ := c
  exact (pe_callB c hg hm hv ha hn hdb he hpl).imp fun σ H Q h => ra_fn (f := .none) k h
theorem me_bty {T : String} {g : Stt → List PV → Option PV} (c : CallD X z (.type T) g) (hm : X.mg x = none) (ha : MA X z (e :: es) d) (hv : bootBuiltins x = some (.type T) := by decide +kernel) (hg : Gl X x := by rfl) (hn : x ≠ "__name__" := by decide) (hdb : (x == ("__debug__" : Str)) = false := by decide)
    (he : starEach (e :: es) X.env = (false, eval e X.env) :: starEach es X.env := by rfl) (hpl : (backTo pos (starEach es X.env)).any (·.1) = false := by rfl) : ME X z (.Call (.Name x p) (e :: es) [] pos) (dFn g d) := by
  obtain ⟨r, c, k⟩ := c
  exact (pe_callTy c hg hm hv ha hn hdb he hpl).imp fun σ H Q h => ra_fn (f := .none) k h
theorem repL1 {K : PySem.W.Frag} {G : Wd} {p : PV} {vs : List V} (r : RepL K G [p] vs) : ∃ v, vs = [v] ∧ Rep K G p v := by
  cases r with
  | cons h t => cases t; exact ⟨_, rfl, h⟩
theorem repL2 {K : PySem.W.Frag} {G : Wd} {p q : PV} {vs : List V} (r : RepL K G [p, q] vs) : ∃ v w, vs = [v, w] ∧ Rep K G p v ∧ Rep K G q w := by
  cases r with
  | cons h t =>
    cases t with
    | cons h' t' => cases t'; exact ⟨_, _, rfl, h, h'⟩
/-- len -/
def fLen (S : Stt) (ps : List PV) : Option PV := match ps with
  | [p] => match res S p with
    | .tup xs => some (.int xs.length)
    | .lst xs => some (.int xs.length)
    | .scr ns => some (.int ns.length)
    | .str x => if x.length ≤ sizeLine then some (.int x.length) else none
    | _ => none
  | _ => none
theorem c_len (hK : z.K = X.K := by rfl) : CallD X z (.builtin "len") fLen := by
  refine ⟨_, call_len_seq.or call_len_str, fun G S ps w vs Q h s su r k => ?_⟩
  rw [← hK]
  match ps, h with
  | [p], h =>
    obtain ⟨v, rfl, rp⟩ := repL1 r
    cases p with
    | tup xs =>
      cases h
      obtain ⟨a, vs, rfl, q, rr⟩ := rp.sqT
      exact .inl ⟨a, vs, rfl, .inr q, by rw [← rr.length]; exact k _ G (.refl G) su (.int _)⟩
    | lst xs =>
      cases h
      obtain ⟨a, vs, rfl, q, rr⟩ := rp.sqL
      exact .inl ⟨a, vs, rfl, .inl (SqL.of q), by rw [← rr.length]; exact k _ G (.refl G) su (.int _)⟩
    | scr ns =>
      cases h
      obtain ⟨a, rfl, q⟩ := rp.sqS
      exact .inl ⟨a, _, rfl, .inl q, by rw [List.length_map]; exact k _ G (.refl G) su (.int _)⟩
    | str x =>
      cases rp
      simp only [fLen, res] at h
      split at h
      · rename_i hl
        cases h
        exact .inr ⟨x, rfl, hl, k _ G (.refl G) su (.int _)⟩
      · cases h
    | ref n =>
      unfold fLen res at h
      cases e : S[n]? with
      | none => simp only [e] at h; cases h
      | some o =>
        cases o with
        | lst xs =>
          simp only [e] at h
          cases h
          obtain ⟨a, vs, rfl, _, q, rr⟩ := rp.sqR s e
          exact .inl ⟨a, vs, rfl, .inl (SqL.of q), by rw [← rr.length]; exact k _ G (.refl G) su (.int _)⟩
        | dct lk kvs => simp only [e] at h; cases h
        | ins c fs => simp only [e] at h; cases h
    | _ => cases h
def fInt (_ : Stt) (ps : List PV) : Option PV := match ps with
  | [.int i] => some (.int i)
  | [.bl b] => some (.int (if b then 1 else 0))
  | _ => none
theorem c_int : CallD X z (.type "int") fInt := by
  refine ⟨_, call_int1, fun G S ps w vs Q h s su r k => ?_⟩
  match ps, h with
  | [.int i], h =>
    cases h
    obtain ⟨v, rfl, rp⟩ := repL1 r
    cases rp
    exact .inl ⟨i, rfl, k _ G (.refl G) su (.int _)⟩
  | [.bl b], h =>
    cases h
    obtain ⟨v, rfl, rp⟩ := repL1 r
    cases rp
    exact .inr ⟨b, rfl, k _ G (.refl G) su (.int _)⟩
def fMin (_ : Stt) (ps : List PV) : Option PV := match ps with
  | [.int i, .int j] => some (.int (if j < i then j else i))
  | _ => none
def fMax (_ : Stt) (ps : List PV) : Option PV := match ps with
  | [.int i, .int j] => some (.int (if j > i then j else i))
  | _ => none
theorem c_min (hc : X.calm = true := by rfl) : CallD X z (.builtin "min") fMin := by
  refine ⟨_, call_min2 hc, fun G S ps w vs Q h s su r k => ?_⟩
  match ps, h with
  | [.int i, .int j], h =>
    cases h
    obtain ⟨v, u, rfl, rp, rq⟩ := repL2 r
    cases rp
    cases rq
    exact ⟨i, j, rfl, k _ G (.refl G) su (.int _)⟩
theorem c_max (hc : X.calm = true := by rfl) : CallD X z (.builtin "max") fMax := by
  refine ⟨_, call_max2 hc, fun G S ps w vs Q h s su r k => ?_⟩
  match ps, h with
  | [.int i, .int j], h =>
    cases h
    obtain ⟨v, u, rfl, rp, rq⟩ := repL2 r
    cases rp
    cases rq
    exact ⟨i, j, rfl, k _ G (.refl G) su (.int _)⟩
/-- isinstance of data -/
def tyN : PV → Option String
  | .non => some "NoneType"
  | .bl _ => some "bool"
  | .int _ => some "int"
  | .str _ => some "str"
  | .tup _ => some "tuple"
  | .lst _ => some "list"
  | .scr _ => none
  | _ => none
/-- a's class beneath b -/
def subT (a b : String) : Option Bool := if ["int", "bool", "str", "tuple", "list"].contains b = true then some (a == b || (a == "bool" && b == "int")) else none
def fIsi (_ : Stt) (ps : List PV) : Option PV := match ps with
  | [p, .raw (.ty n)] => (tyN p).bind fun t => (subT t n).map PV.bl
  | _ => none
theorem sub_kit {p : PV} {t n : String} {b : Bool} (h : tyN p = some t) (hb : subT t n = some b) : kitB t n = some b := by
  have hn : n = "int" ∨ n = "bool" ∨ n = "str" ∨ n = "tuple" ∨ n = "list" := by
    unfold subT at hb
    split at hb
    · rename_i hc
      simpa using hc
    · cases hb
  have ht : t = "NoneType" ∨ t = "bool" ∨ t = "int" ∨ t = "str" ∨ t = "tuple" ∨ t = "list" := by
    cases p <;> simp [tyN] at h <;> simp [← h]
  rcases hn with rfl | rfl | rfl | rfl | rfl <;> rcases ht with rfl | rfl | rfl | rfl | rfl | rfl <;>
    (rw [← hb]; decide +kernel)
theorem rep_ty {K : PySem.W.Frag} {G : Wd} {p : PV} {v : V} {t : String} (r : Rep K G p v) (h : tyN p = some t) : TyX K G.H v (.type t) := by
  cases p with
  | non => cases h; cases r; exact .base .non
  | bl b => cases h; cases r; exact .base (.bl b)
  | int i => cases h; cases r; exact .base (.int i)
  | str x => cases h; cases r; exact .base (.str x)
  | tup xs =>
    cases h
    cases r with
    | tup hh rr =>
      rcases hh with ⟨_, o, _, q⟩ | q
      · exact .fTuple q
      · rcases q.1 with (q | ⟨o, q⟩) | ⟨o, its, n, q, c, _⟩
        · cases q
        · cases q
        · exact .kTuple q c
  | lst xs =>
    cases h
    cases r with
    | lst _ q rr => exact .base (.lst q)
  | _ => cases h
theorem c_isi (hK : z.K = X.K := by rfl) : CallD X z (.builtin "isinstance") fIsi := by
  refine ⟨_, call_isi, fun G S ps w vs Q h s su r k => ?_⟩
  rw [← hK]
  match ps, h with
  | [p, .raw (.ty n)], h =>
    obtain ⟨v, u, rfl, rp, rq⟩ := repL2 r
    cases rq
    have h' : ((tyN p).bind fun t => (subT t n).map PV.bl) = some w := h
    cases e : tyN p with
    | none => rw [e] at h'; cases h'
    | some t =>
      rw [e, Option.bind_some] at h'
      cases e2 : subT t n with
      | none => rw [e2] at h'; cases h'
      | some b =>
        rw [e2] at h'
        cases h'
        exact ⟨v, .ty n, .type t, .type n, b, rfl, .ty n, rep_ty rp e, kit_ty (sub_kit e e2), k _ G (.refl G) su (.bl b)⟩
/-- tuple(..), list(..) -/
def fTuple (S : Stt) (ps : List PV) : Option PV := match ps with
  | [p] => match res S p with
    | .tup xs => some (.tup xs)
    | .lst xs => some (.tup xs)
    | .scr ns => some (.tup (ns.map PV.int))
    | _ => none
  | _ => none
theorem c_tuple (hK : z.K = X.K := by rfl) : CallD X z (.type "tuple") fTuple := by
  refine ⟨_, call_tuple_ofN, fun G S ps w vs Q h s su r k => ?_⟩
  rw [← hK]
  have newT : ∀ (a : Addr) (ws : List V) (xs : List PV), SqL z.K G.H a ws → RepL z.K G xs ws → w = .tup xs → ∃ p ys, [V.ref a] = [.ref p] ∧ ((SqL z.K G.H p ys ∧ ∀ l o, G.H l = none → o.dict = none → Q (.ref l) (upd G.H l (.frz o (.tup ys)))) ∨ (SqT z.K G.H p ys ∧ Q (.ref p) G.H)) := fun a ws xs q rr e => by
    refine ⟨a, ws, rfl, .inl ⟨q, fun l o hn ho => ?_⟩⟩
    subst e
    have M := (Ext.frozen (o := .frz o (.tup ws)) hn).mon su
    exact k (.ref l) (G.frozen l (.frz o (.tup ws))) (Ext.frozen hn) (sure_frozen su hn) (.tup (.inl ⟨.inr rfl, o, ho, upd_same⟩) (rr.mon M))
  match ps, h with
  | [p], h =>
    obtain ⟨v, rfl, rp⟩ := repL1 r
    cases p with
    | tup xs =>
      cases h
      obtain ⟨a, vs, rfl, q, rr⟩ := rp.sqT
      exact ⟨a, vs, rfl, .inr ⟨q, k _ G (.refl G) su rp⟩⟩
    | lst xs =>
      cases h
      obtain ⟨a, vs, rfl, q, rr⟩ := rp.sqL
      exact newT a vs xs (SqL.of q) rr rfl
    | scr ns =>
      cases h
      obtain ⟨a, rfl, q⟩ := rp.sqS
      exact newT a _ _ q (RepL.ints ns) rfl
    | ref n =>
      unfold fTuple res at h
      cases e : S[n]? with
      | none => simp only [e] at h; cases h
      | some o =>
        cases o with
        | lst xs =>
          simp only [e] at h
          cases h
          obtain ⟨a, vs, rfl, _, q, rr⟩ := rp.sqR s e
          exact newT a vs xs (SqL.of q) rr rfl
        | dct lk kvs => simp only [e] at h; cases h
        | ins c fs => simp only [e] at h; cases h
    | _ => cases h
/-- list(..): a new list -/
def itemsOf (S : Stt) (p : PV) : Option (List PV) := match res S p with
  | .tup xs => some xs
  | .lst xs => some xs
  | .scr ns => some (ns.map PV.int)
  | _ => none
def dListF (d : Cd PV) : Cd (List PV) := bnd d fun p => fun e s => match itemsOf s p with
  | some xs => .ok xs e s
  | none => .bad
theorem items_rep {K : PySem.W.Frag} {G : Wd} {S : Stt} {p : PV} {xs : List PV} {v : V} (h : itemsOf S p = some xs) (s : RepS K G S) (r : Rep K G p v) : ∃ a vs, v = .ref a ∧ (SqL K G.H a vs ∨ SqT K G.H a vs) ∧ RepL K G xs vs := by
  cases p with
  | tup ys =>
    cases h
    obtain ⟨a, vs, rfl, q, rr⟩ := r.sqT
    exact ⟨a, vs, rfl, .inr q, rr⟩
  | lst ys =>
    cases h
    obtain ⟨a, vs, rfl, q, rr⟩ := r.sqL
    exact ⟨a, vs, rfl, .inl (SqL.of q), rr⟩
  | scr ns =>
    cases h
    obtain ⟨a, rfl, q⟩ := r.sqS
    exact ⟨a, _, rfl, .inl q, RepL.ints ns⟩
  | ref n =>
    unfold itemsOf res at h
    cases e : S[n]? with
    | none => simp only [e] at h; cases h
    | some o =>
      cases o with
      | lst ys =>
        simp only [e] at h
        cases h
        obtain ⟨a, vs, rfl, _, q, rr⟩ := r.sqR s e
        exact ⟨a, vs, rfl, .inl (SqL.of q), rr⟩
      | dct lk kvs => simp only [e] at h; cases h
      | ins c fs => simp only [e] at h; cases h
  | _ => cases h
theorem mf_list {d : Cd PV} (ha : ME X z e d) (hm : X.mg "list" = none) (hK : z.K = X.K := by rfl) (hg : Gl X "list" := by rfl) (hs : starEach [e] X.env = (false, eval e X.env) :: starEach [] X.env := by rfl) (hpl : (backTo pos (starEach [] X.env)).any (·.1) = false := by rfl) :
    MF X z (.Call (.Name "list" p) [e] [] pos) (dListF d) := by
  refine (pe_callTy (x := "list") call_list_of hg hm (by decide +kernel) (pa_cons ha pa_nil hs) (by decide) (by decide) hs hpl).imp fun σ H Q ⟨G, env, S, e, A, P⟩ => ?_
  subst e
  refine toE lwF A P fun p env1 S1 v G1 m1 A1 r1 P1 => ?_
  cases e : itemsOf S1 p with
  | none => simp only [e] at P1; exact P1.elim
  | some xs =>
    simp only [e] at P1
    obtain ⟨a, vs, rfl, q, rr⟩ := items_rep e A1.st r1
    refine ⟨a, vs, rfl, by rw [← hK]; exact q, fun l hn => ?_⟩
    have M : Mon G1 (G1.fresh l (.lst vs)) := (Ext.fresh hn).mon A1.sure
    have q := A1.alone (vs := vs) hn
    exact P1 l vs _ M (A1.fresh hn) (rr.mon M) q.at_ q.nf q.nm q.n0 q.no
end
end FS
set_option Elab.async false
set_option linter.all false
set_option maxRecDepth 100000
/-! FsMore: places held alone, shared lists changed, walks, comprehensions. -/
namespace FS
open PySem PySem.Spec L2
section
variable {z : Zx} {G : Wd} {env : Env} {S : Stt} {σ : St} {i n : Nat}
theorem list_set_self {α : Type} {l : List α} {i : Nat} {a : α} (h : l[i]? = some a) : l.set i a = l := by
  apply List.ext_getElem?
  intro j
  rw [getElem?_set']
  by_cases hj : i = j
  · subst hj
    rw [if_pos rfl, if_pos (List.getElem?_eq_some_iff.mp h).1, h]
  · rw [if_neg hj]
/-- a held list becomes a value -/
theorem At.soft {xs : List PV} (A : At z.K z.G0 G S env σ) (h : env[i]? = some (.own xs)) : ∃ a, σ[i]? = some (some (.ref a)) ∧ At z.K z.G0 (G.freeze a) S (env.set i (.val (.lst xs))) σ ∧ Rep z.K (G.freeze a) (.lst xs) (.ref a) := by
  obtain ⟨a, vs, e1, al, r⟩ := A.thaw h
  have A1 : At z.K z.G0 G S (env.set i .none) (σ.set i none) := A.setSlot (.inl rfl)
  have al1 : Alone z G (env.set i .none) (σ.set i none) a vs := ⟨al.at_, al.nf, al.nm, al.n0, fun j ho e => by
    rw [getElem?_set'] at e
    by_cases hj : i = j
    · obtain ⟨ys, ho⟩ := ho
      rw [getElem?_set', if_pos hj] at ho
      split at ho <;> cases ho
    · rw [if_neg hj] at e
      exact al.no j ho e⟩
  have A2 := A1.freeze al1
  have r2 : Rep z.K (G.freeze a) (.lst xs) (.ref a) := .lst (.inr rfl) al.at_ (r.mon mon_freeze)
  have A3 := A2.setVal (i := i) r2
  rw [List.set_set, List.set_set, list_set_self e1] at A3
  exact ⟨a, e1, A3, r2⟩
/-- a held list changed -/
theorem At.pokeOwn {xs xs' : List PV} {a : Addr} {vs' : List V} (A : At z.K z.G0 G S env σ) (h : env[i]? = some (.own xs)) (e : σ[i]? = some (some (.ref a))) (r : RepL z.K G xs' vs') :
    Mon G ⟨G.m, G.fz, upd G.H a (.lst vs'), G.T⟩ ∧ At z.K z.G0 ⟨G.m, G.fz, upd G.H a (.lst vs'), G.T⟩ S (env.set i (.own xs')) σ := by
  obtain ⟨b, vs, e1, e2, r1, n1, n2⟩ := A.en.own i xs h
  rw [e] at e1
  cases e1
  have M : Mon G ⟨G.m, G.fz, upd G.H a (.lst vs'), G.T⟩ := ⟨⟨[], by simp⟩, fun c hc => ⟨hc, upd_ne (fun z => n1 (by rw [← z]; exact hc))⟩⟩
  have n0 := A.mine i a ⟨xs, h⟩ e
  have iown : ∀ j, IsOwn (env.set i (.own xs')) j → IsOwn env j := fun j ⟨ys, q⟩ => by
    rw [getElem?_set'] at q
    by_cases hj : i = j
    · subst hj; exact ⟨xs, h⟩
    · rw [if_neg hj] at q; exact ⟨ys, q⟩
  refine ⟨M, ⟨A.st.len, A.st.nd, A.st.nf, fun j c o h1 h2 => ?_⟩, ⟨by rw [List.length_set]; exact A.en.len, fun j p q => ?_, fun j ys q => ?_, fun j b d w q => ?_, fun j k c h1 h2 q1 q2 => A.en.dis j k c (iown j h1) (iown k h2) q1 q2⟩, ⟨A.ent.pre, A.ent.new, A.ent.fz, A.ent.fzn, fun c o h1 nt h2 => ?_, fun c hc => ?_, A.ent.T, fun h => tabs_poke e2 (A.ent.tb h)⟩, fun j c h1 q => A.mine j c (iown j h1) q, fun c hc => ?_⟩
  · have q := A.st.ob j c o h1 h2
    have hne : c ≠ a := fun z => n2 (by rw [← z]; exact List.mem_of_getElem? h1)
    show RepO z.K _ o (upd G.H a (.lst vs') c)
    rw [upd_ne hne]
    exact q.mono M
  · rw [getElem?_set'] at q
    by_cases hj : i = j
    · rw [if_pos hj] at q
      split at q <;> cases q
    · rw [if_neg hj] at q
      obtain ⟨v, q1, q2⟩ := A.en.val j p q
      exact ⟨v, q1, q2.mon M⟩
  · rw [getElem?_set'] at q
    by_cases hj : i = j
    · subst hj
      rw [if_pos rfl] at q
      split at q
      · cases q
        exact ⟨a, vs', e, upd_same, r.mon M, n1, n2⟩
      · cases q
    · rw [if_neg hj] at q
      obtain ⟨c, ws, q1, q2, q3, q4, q5⟩ := A.en.own j ys q
      have hne : c ≠ a := fun z => hj (A.en.dis i j a ⟨xs, h⟩ ⟨ys, q⟩ e (by rw [q1, z]))
      exact ⟨c, ws, q1, (upd_ne hne).trans q2, q3.mon M, q4, q5⟩
  · rw [getElem?_set'] at q
    by_cases hj : i = j
    · rw [if_pos hj] at q
      split at q <;> cases q
    · rw [if_neg hj] at q
      obtain ⟨q1, q2, v, q3, q4⟩ := A.en.exc j b d w q
      have hne : d ≠ a := fun z => n1 (by rw [← z]; exact q2)
      exact ⟨q1, q2, v, (upd_ne hne).trans q3, q4.mon M⟩
  · have hne : c ≠ a := fun z => by rw [z] at h1; exact n0.no h1 nt
    exact (upd_ne hne).trans (A.ent.keep c o h1 nt h2)
  · exact A.ent.there c (nu_poke hc)
  · have hne : c ≠ a := fun z => n1 (by rw [← z]; exact hc)
    obtain ⟨o, q, nt⟩ := A.sure c hc
    exact ⟨o, (upd_ne hne).trans q, nt⟩
/-- a shared list changed -/
theorem At.poke {xs' : List PV} {xs : List PV} {a : Addr} {vs' : List V} (A : At z.K z.G0 G S env σ) (hm : G.m[n]? = some a) (h : S[n]? = some (.lst xs)) (r : RepL z.K G xs' vs') :
    Mon G ⟨G.m, G.fz, upd G.H a (.lst vs'), G.T⟩ ∧ At z.K z.G0 ⟨G.m, G.fz, upd G.H a (.lst vs'), G.T⟩ (S.set n (.lst xs')) env σ := by
  have ham : a ∈ G.m := List.mem_of_getElem? hm
  have n1 := A.st.nf a ham
  obtain ⟨vs0, ea, _⟩ : RepO z.K G (.lst xs) (G.H a) := A.st.ob n a _ hm h
  have M : Mon G ⟨G.m, G.fz, upd G.H a (.lst vs'), G.T⟩ := ⟨⟨[], by simp⟩, fun c hc => ⟨hc, upd_ne (fun z => n1 (by rw [← z]; exact hc))⟩⟩
  refine ⟨M, ⟨by rw [List.length_set]; exact A.st.len, A.st.nd, A.st.nf, fun j c o h1 h2 => ?_⟩, A.en.over M fun j c ho e => ?_, ⟨A.ent.pre, A.ent.new, A.ent.fz, A.ent.fzn, fun c o h1 nt h2 => ?_, fun c hc => ?_, A.ent.T, fun h => tabs_poke ea (A.ent.tb h)⟩, A.mine, fun c hc => ?_⟩
  · rw [getElem?_set'] at h2
    by_cases hj : n = j
    · subst hj
      rw [if_pos rfl] at h2
      have e : c = a := by
        have : G.m[n]? = some c := h1
        rw [hm] at this
        exact (Option.some.inj this).symm
      split at h2
      · cases h2
        subst e
        exact ⟨vs', upd_same, r.mon M⟩
      · cases h2
    · rw [if_neg hj] at h2
      have hne : c ≠ a := fun z => hj (by
        have h1' : G.m[j]? = some c := h1
        obtain ⟨l1, q1⟩ := List.getElem?_eq_some_iff.mp hm
        obtain ⟨l2, q2⟩ := List.getElem?_eq_some_iff.mp h1'
        exact (List.getElem_inj A.st.nd).mp (by rw [q1, q2, z]))
      show RepO z.K _ o (upd G.H a (.lst vs') c)
      rw [upd_ne hne]
      exact (A.st.ob j c o h1 h2).mono M
  · obtain ⟨ys, ho⟩ := ho
    obtain ⟨b, ws, q1, q2, _, q4, q5⟩ := A.en.own j ys ho
    rw [e] at q1
    cases q1
    exact ⟨upd_ne (fun z => q5 (by rw [z]; exact ham)), q4, q5⟩
  · have hne : c ≠ a := fun z => by
      rcases A.ent.new a ham with q | q
      · exact h2 (by rw [z]; exact q)
      · rw [z] at h1; exact q.no h1 nt
    exact (upd_ne hne).trans (A.ent.keep c o h1 nt h2)
  · exact A.ent.there c (nu_poke hc)
  · have hne : c ≠ a := fun z => n1 (by rw [← z]; exact hc)
    obtain ⟨o, q, nt⟩ := A.sure c hc
    exact ⟨o, (upd_ne hne).trans q, nt⟩
end
section
variable {X : Cx} {z : Zx} {pos p apos cpos : Pos}
/-- a name's value; a list that the name alone held is a value from here on -/
def dUse (i : Nat) : Cd PV := fun e s => match e[i]? with
  | some (.val p) => .ok p e s
  | some (.own xs) => .ok (.lst xs) (e.set i (.val (.lst xs))) s
  | _ => .bad
theorem me_use (i : Nat) {x : Str} (hN : X.N[i]? = some x := by rfl) (hv : Vis X.env.scope x := by first | exact Or.inl rfl | exact Or.inr (Or.inl rfl) | exact Or.inr (Or.inr rfl)) (hd : (x == ("__debug__" : Str)) = false := by decide)
    (hcd : (x == ("__classdict__" : Str)) = false := by decide) : ME X z (.Name x pos) (dUse i) := by
  refine (pe_var hN hv hd hcd).imp fun σ H Q ⟨G, env, S, e, A, P⟩ => ?_
  unfold dUse at P
  subst e
  cases q : env[i]? with
  | none => rw [q] at P; exact P.elim
  | some s =>
    rw [q] at P
    cases s with
    | none => exact P.elim
    | exc a d w => exact P.elim
    | val p =>
      obtain ⟨v, e1, r⟩ := A.en.val i p q
      exact ⟨v, e1, P v G (Mon.refl G) A r⟩
    | own xs =>
      obtain ⟨a, e1, A1, r⟩ := A.soft q
      exact ⟨_, e1, P (.ref a) (G.freeze a) mon_freeze A1 r⟩
/-! ### methods of lists -/
def MthD (X : Cx) (id : String) (mf : List PV → List PV → Option (PV × List PV)) : Prop :=
  ∃ r : V → List V → Hp → VK → Prop, MtR X id r ∧ ∀ (K : PySem.W.Frag) (G : Wd) (a : Addr) (vs : List V) (xs ps : List PV) (ws : List V) (w : PV) (xs' : List PV) (Q : VK), mf xs ps = some (w, xs') → G.H a = some (.lst vs) → RepL K G xs vs → RepL K G ps ws →
    (∀ v vs', Rep K G w v → RepL K G xs' vs' → Q v (upd G.H a (.lst vs'))) → r (.ref a) ws G.H Q
def mAppend : List PV → List PV → Option (PV × List PV) := fun xs ps => match ps with
  | [p] => if xs.length < sizeLine then some (.non, xs ++ [p]) else none
  | _ => none
theorem m_append : MthD X "list.append" mAppend := by
  refine ⟨_, mt_append, fun K G a vs xs ps ws w xs' Q h ha r rp k => ?_⟩
  match ps, h with
  | [p], h =>
    obtain ⟨v, rfl, r1⟩ := repL1 rp
    simp only [mAppend] at h
    split at h
    · rename_i hl
      cases h
      exact ⟨a, vs, v, rfl, rfl, ha, by rw [← r.length]; exact hl, k _ _ .non (r.snoc r1)⟩
    · cases h
def mPopAt : List PV → List PV → Option (PV × List PV) := fun xs ps => match ps with
  | [.int i] => if -1048576 < i ∧ i < 1048576 then (match ixN xs.length i with
    | some j => (xs[j]?).map fun p => (p, xs.eraseIdx j)
    | none => none) else none
  | _ => none
theorem m_popAt : MthD X "list.pop" mPopAt := by
  refine ⟨_, mt_popAt, fun K G a vs xs ps ws w xs' Q h ha r rp k => ?_⟩
  match ps, h with
  | [.int i], h =>
    obtain ⟨v, rfl, r1⟩ := repL1 rp
    cases r1
    simp only [mPopAt] at h
    split at h
    · rename_i hl
      cases e : ixN xs.length i with
      | none => rw [e] at h; cases h
      | some j =>
        rw [e] at h
        obtain ⟨h1, h2, h3, h4⟩ := ixN_seq e
        cases e2 : xs[j]? with
        | none => simp only [e2] at h; cases h
        | some p =>
          simp only [e2, Option.map_some] at h
          cases h
          obtain ⟨v, e3, r3⟩ := r.get e2
          have e63 : (2 : Int) ^ 63 = 9223372036854775808 := by decide
          exact ⟨a, vs, i, j, v, rfl, rfl, ha, by rw [e63]; omega, by rw [e63]; omega, by rw [← r.length]; exact h1, e3, k v _ r3 (r.erase j)⟩
    · cases h
variable {o e : Expr} {es : List Expr} {da : Cd (List PV)} {d : Cd PV} {name : Str} {id : String} {mf : List PV → List PV → Option (PV × List PV)}
/-- x.m(..), x a list that its name alone holds -/
def dMthO (i : Nat) (mf : List PV → List PV → Option (PV × List PV)) (da : Cd (List PV)) : Cd PV := fun e s => match e[i]? with
  | some (.own _) => bnd da (fun ps => fun e s => match e[i]? with
    | some (.own xs) => match mf xs ps with
      | some (w, xs') => .ok w (e.set i (.own xs')) s
      | none => .bad
    | _ => .bad) e s
  | _ => .bad
theorem me_mthO (i : Nat) {x : Str} {slot : PySem.Slot "list" name id} (M : MthD X id mf) (hty : typeOf (.builtin id) = pure (.type "method_descriptor")) (ha : MA X z (e :: es) da)
    (hN : X.N[i]? = some x := by rfl) (hv : Vis X.env.scope x := by first | exact Or.inl rfl | exact Or.inr (Or.inl rfl) | exact Or.inr (Or.inr rfl)) (hd : (x == ("__debug__" : Str)) = false := by decide)
    (hcd : (x == ("__classdict__" : Str)) = false := by decide)
    (hbase : attributeBase (.Name x p) name X.env (eval (.Name x p) X.env) = eval (.Name x p) X.env := by rfl)
    (hfew : ((backTo cpos (starEach (e :: es) X.env)).all (fun x => !x.1) && (backToKw cpos (keywordEach [] X.env)).all (fun x => x.1.isSome)
      && decide ((e :: es).length + ([] : List Keyword).length + (if ([] : List Keyword).isEmpty then 0 else 1) < 30)) = true := by rfl)
    (hline : (apos.endLine == cpos.line) = true := by rfl) (hs : starEach (e :: es) X.env = (false, eval e X.env) :: starEach es X.env := by rfl) (hplain : (backTo cpos (starEach es X.env)).any (·.1) = false := by rfl) :
    ME X z (.Call (.Attribute (.Name x p) name apos) (e :: es) [] cpos) (dMthO i mf da) := by
  obtain ⟨r, hm, k⟩ := M
  refine (pe_bm PySem.F.plainAttrs_list slot hty hm (pe_var hN hv hd hcd) ha hbase hfew hline hs hplain).imp fun σ H Q ⟨G, env, S, e, A, P⟩ => ?_
  subst e
  unfold dMthO at P
  cases q : env[i]? with
  | none => simp only [q] at P; exact P.elim
  | some sl =>
    cases sl with
    | none => simp only [q] at P; exact P.elim
    | exc a d w => simp only [q] at P; exact P.elim
    | val p => simp only [q] at P; exact P.elim
    | own xs =>
      simp only [q] at P
      obtain ⟨a, vs, e1, e2, _⟩ := A.en.own i xs q
      refine ⟨.ref a, e1, .inl ⟨rfl, vs, SqL.of e2⟩, ?_⟩
      refine toA lwE A P fun ps env1 S1 ws G1 m1 A1 r1 P1 => ?_
      cases q1 : env1[i]? with
      | none => simp only [q1] at P1; exact P1.elim
      | some sl =>
        cases sl with
        | none => simp only [q1] at P1; exact P1.elim
        | val p => simp only [q1] at P1; exact P1.elim
        | exc a d w => simp only [q1] at P1; exact P1.elim
        | own ys =>
          simp only [q1] at P1
          cases e : mf ys ps with
          | none => simp only [e] at P1; exact P1.elim
          | some wx =>
            obtain ⟨w, xs'⟩ := wx
            simp only [e] at P1
            obtain ⟨b, us, f1, f2, f3, _⟩ := A1.en.own i ys q1
            rw [e1] at f1
            cases f1
            refine k z.K G1 a us ys ps ws w xs' Q e f2 f3 r1 fun v vs' rv rx => ?_
            obtain ⟨M, A2⟩ := A1.pokeOwn q1 e1 rx
            exact P1 v _ M A2 (rv.mon M)
/-- o.m(..), o a shared list -/
def dMthR (mf : List PV → List PV → Option (PV × List PV)) (d : Cd PV) (da : Cd (List PV)) : Cd PV := bnd d fun p => match p with
  | .ref n => fun e s => match s[n]? with
    | some (.lst _) => bnd da (fun ps => fun e s => match s[n]? with
      | some (.lst xs) => match mf xs ps with
        | some (w, xs') => .ok w e (s.set n (.lst xs'))
        | none => .bad
      | some (.dct _ _) => .bad
      | some (.ins _ _) => .bad
      | none => .bad) e s
    | some (.dct _ _) => .bad
    | some (.ins _ _) => .bad
    | none => .bad
  | _ => fun _ _ => .bad
theorem me_mthR {slot : PySem.Slot "list" name id} (M : MthD X id mf) (hty : typeOf (.builtin id) = pure (.type "method_descriptor")) (ho : ME X z o d) (ha : MA X z (e :: es) da) (hK : z.K = X.K := by rfl)
    (hbase : attributeBase o name X.env (eval o X.env) = eval o X.env := by rfl)
    (hfew : ((backTo cpos (starEach (e :: es) X.env)).all (fun x => !x.1) && (backToKw cpos (keywordEach [] X.env)).all (fun x => x.1.isSome)
      && decide ((e :: es).length + ([] : List Keyword).length + (if ([] : List Keyword).isEmpty then 0 else 1) < 30)) = true := by rfl)
    (hline : (apos.endLine == cpos.line) = true := by rfl) (hs : starEach (e :: es) X.env = (false, eval e X.env) :: starEach es X.env := by rfl) (hplain : (backTo cpos (starEach es X.env)).any (·.1) = false := by rfl) :
    ME X z (.Call (.Attribute o name apos) (e :: es) [] cpos) (dMthR mf d da) := by
  obtain ⟨r, hm, k⟩ := M
  refine (pe_bm PySem.F.plainAttrs_list slot hty hm ho ha hbase hfew hline hs hplain).imp fun σ H Q ⟨G, env, S, e, A, P⟩ => ?_
  subst e
  refine toE lwE A P fun p env1 S1 v G1 m1 A1 r1 P1 => ?_
  cases p with
  | ref n =>
    cases q : S1[n]? with
    | none => simp only [q] at P1; exact P1.elim
    | some so =>
      cases so with
      | lst xs =>
        simp only [q] at P1
        obtain ⟨a, vs, rfl, hmn, e2, _⟩ := r1.sqR A1.st q
        refine ⟨.inl ⟨rfl, vs, SqL.of e2⟩, ?_⟩
        refine toA lwE A1 P1 fun ps env2 S2 ws G2 m2 A2 r2 P2 => ?_
        cases q2 : S2[n]? with
        | none => simp only [q2] at P2; exact P2.elim
        | some so =>
          cases so with
          | lst ys =>
            simp only [q2] at P2
            cases e : mf ys ps with
            | none => simp only [e] at P2; exact P2.elim
            | some wx =>
              obtain ⟨w, xs'⟩ := wx
              simp only [e] at P2
              obtain ⟨b, us, eb, hm2, f2, f3⟩ := (r1.mon m2).sqR A2.st q2
              cases eb
              refine k z.K G2 a us ys ps ws w xs' Q e f2 f3 r2 fun v vs' rv rx => ?_
              obtain ⟨M, A3⟩ := A2.poke hm2 q2 rx
              exact P2 v _ M A3 (rv.mon M)
          | dct lk kvs => simp only [q2] at P2; exact P2.elim
          | ins c fs => simp only [q2] at P2; exact P2.elim
      | dct lk kvs => simp only [q] at P1; exact P1.elim
      | ins c fs => simp only [q] at P1; exact P1.elim
  | _ => exact P1.elim
/-! ### o[i] = e -/
variable {oi ei : Expr} {di dv : Cd PV}
/-- x[k] = v, x a list that its name alone holds -/
def dSetO (i : Nat) (di dv : Cd PV) : Cd Flw := bnd dv fun w => fun e s => match e[i]? with
  | some (.own _) => bnd di (fun k => fun e s => match e[i]?, k with
    | some (.own xs), .int k => match ixN xs.length k with
      | some j => .ok .next (e.set i (.own (xs.set j w))) s
      | none => .bad
    | _, _ => .bad) e s
  | _ => .bad
theorem ms_setO (i : Nat) {x : Str} {tpos : Pos} (hv : ME X z ei dv) (hi : ME X z oi di)
    (hN : X.N[i]? = some x := by rfl) (hvis : Vis X.env.scope x := by first | exact Or.inl rfl | exact Or.inr (Or.inl rfl) | exact Or.inr (Or.inr rfl)) (hd : (x == ("__debug__" : Str)) = false := by decide)
    (hcd : (x == ("__classdict__" : Str)) = false := by decide)
    (ha : ∀ v, assign (.Subscript (.Name x p) oi tpos) X.env v = (do
      let ov ← holding [v] (eval (.Name x p) X.env)
      let iv ← holding [v, ov] (eval oi X.env)
      standAt tpos
      holding [v, ov, iv] (setItem ov iv v)
      release [v, ov, iv] []) := by intro _; rfl)
    (hs : swapsWithSole [.Subscript (.Name x p) oi tpos] ei pos.line X.env = pure false := by rfl) (hw : swappedStores [.Subscript (.Name x p) oi tpos] ei X.env = pure none := by rfl)
    (h1 : (assignEach [.Subscript (.Name x p) oi tpos] X.env).map (·.2) = [assign (.Subscript (.Name x p) oi tpos) X.env] := by rfl) :
    MS X z (.Assign [.Subscript (.Name x p) oi tpos] ei pos) (dSetO i di dv) := by
  refine PS.imp (ps_asg hv (pg_sub (pe_var hN hvis hd hcd) hi set_list ha) hs hw h1) fun D σ H ⟨G, env, S, e, A, P⟩ => ?_
  subst e
  refine toE lwS A P fun w env1 S1 v G1 m1 A1 r1 P1 => ?_
  cases q : env1[i]? with
  | none => simp only [q] at P1; exact P1.elim
  | some sl =>
    cases sl with
    | none => simp only [q] at P1; exact P1.elim
    | val _ => simp only [q] at P1; exact P1.elim
    | exc a d w => simp only [q] at P1; exact P1.elim
    | own ys =>
      simp only [q] at P1
      obtain ⟨a, ws, ea, _⟩ := A1.en.own i ys q
      refine ⟨.ref a, ea, ?_⟩
      refine toE lwS A1 P1 fun k env2 S2 y G2 m2 A2 r2 P2 => ?_
      cases q2 : env2[i]? with
      | none => simp only [q2] at P2; exact P2.elim
      | some sl =>
        cases sl with
        | none => simp only [q2] at P2; exact P2.elim
        | val _ => simp only [q2] at P2; exact P2.elim
        | exc a d w => simp only [q2] at P2; exact P2.elim
        | own xs =>
          cases k with
          | int k =>
            simp only [q2] at P2
            cases r2
            cases e : ixN xs.length k with
            | none => simp only [e] at P2; exact P2.elim
            | some j =>
              simp only [e] at P2
              obtain ⟨b, us, f1, f2, f3, _⟩ := A2.en.own i xs q2
              rw [ea] at f1
              cases f1
              obtain ⟨M, A3⟩ := A2.pokeOwn q2 ea (f3.set j (r1.mon m2))
              exact ⟨a, us, k, j, rfl, rfl, f2, by rw [← f3.length]; exact e, P2 σ _ M A3⟩
          | _ => simp only [q2] at P2; exact P2.elim
/-- o[k] = v, o a shared list -/
def dSetR (d di dv : Cd PV) : Cd Flw := bnd dv fun w => bnd d fun p => bnd di fun k => fun e s => match p, k with
  | .ref n, .int k => match s[n]? with
    | some (.lst xs) => match ixN xs.length k with
      | some j => .ok .next e (s.set n (.lst (xs.set j w)))
      | none => .bad
    | some (.dct _ _) => .bad
    | some (.ins _ _) => .bad
    | none => .bad
  | _, _ => .bad
theorem ms_setR {tpos : Pos} (hv : ME X z ei dv) (ho : ME X z o d) (hi : ME X z oi di) (hK : z.K = X.K := by rfl)
    (ha : ∀ v, assign (.Subscript o oi tpos) X.env v = (do
      let ov ← holding [v] (eval o X.env)
      let iv ← holding [v, ov] (eval oi X.env)
      standAt tpos
      holding [v, ov, iv] (setItem ov iv v)
      release [v, ov, iv] []) := by intro _; rfl)
    (hs : swapsWithSole [.Subscript o oi tpos] ei pos.line X.env = pure false := by rfl) (hw : swappedStores [.Subscript o oi tpos] ei X.env = pure none := by rfl)
    (h1 : (assignEach [.Subscript o oi tpos] X.env).map (·.2) = [assign (.Subscript o oi tpos) X.env] := by rfl) :
    MS X z (.Assign [.Subscript o oi tpos] ei pos) (dSetR d di dv) := by
  refine PS.imp (ps_asg hv (pg_sub ho hi set_list ha) hs hw h1) fun D σ H ⟨G, env, S, e, A, P⟩ => ?_
  subst e
  refine toE lwS A P fun w env1 S1 v G1 m1 A1 r1 P1 => toE lwS A1 P1 fun p env2 S2 u G2 m2 A2 r2 P2 => toE lwS A2 P2 fun k env3 S3 y G3 m3 A3 r3 P3 => ?_
  cases p with
  | ref n =>
    cases k with
    | int k =>
      cases r3
      cases q : S3[n]? with
      | none => simp only [q] at P3; exact P3.elim
      | some so =>
        cases so with
        | lst xs =>
          simp only [q] at P3
          cases e : ixN xs.length k with
          | none => simp only [e] at P3; exact P3.elim
          | some j =>
            simp only [e] at P3
            obtain ⟨a, us, rfl, hm, f2, f3⟩ := (r2.mon m3).sqR A3.st q
            obtain ⟨M, A4⟩ := A3.poke hm q (f3.set j (r1.mon (m2.trans m3)))
            exact ⟨a, us, k, j, rfl, rfl, f2, by rw [← f3.length]; exact e, P3 σ _ M A4⟩
        | dct lk kvs => simp only [q] at P3; exact P3.elim
        | ins c fs => simp only [q] at P3; exact P3.elim
    | _ => exact P3.elim
  | _ => cases k <;> exact P3.elim
/-! ### what a for walks -/
variable {tg : Expr}
theorem enum_list {K : PySem.W.Frag} {G : Wd} {a : Addr} {vs : List V} {ps : List PV} (r : RepL K G ps vs) (h : ∀ G1, Mon G G1 → SqL K G1.H a vs) : Enum K (Itl K a) G ps :=
  ⟨fun i G1 M hl => ⟨vs, h G1 M, by rw [← r.length]; exact hl⟩, fun i p G1 M su e => by
    obtain ⟨v, e1, r1⟩ := r.get e
    refine ⟨⟨vs, v, h G1 M, e1⟩, fun x H' y => ⟨G1, y.1.symm, .refl G1, su, ?_⟩⟩
    have := y.2 vs (h G1 M)
    rw [e1] at this
    cases this
    exact r1.mon M⟩
theorem enum_tup {K : PySem.W.Frag} {G : Wd} {a : Addr} {vs : List V} {ps : List PV} (r : RepL K G ps vs) (h : ∀ G1, Mon G G1 → SqT K G1.H a vs) : Enum K (Itt K a) G ps :=
  ⟨fun i G1 M hl => ⟨vs, h G1 M, by rw [← r.length]; exact hl⟩, fun i p G1 M su e => by
    obtain ⟨v, e1, r1⟩ := r.get e
    refine ⟨⟨vs, v, h G1 M, e1⟩, fun x H' y => ⟨G1, y.1.symm, .refl G1, su, ?_⟩⟩
    have := y.2 vs (h G1 M)
    rw [e1] at this
    cases this
    exact r1.mon M⟩
/-- a frozen list or tuple's items, wherever it is read -/
def itemsF : PV → Option (List PV)
  | .tup xs => some xs
  | .lst xs => some xs
  | .scr ns => some (ns.map PV.int)
  | _ => none
theorem itemsF_rep {K : PySem.W.Frag} {G : Wd} {p : PV} {xs : List PV} {v : V} (h : itemsF p = some xs) (r : Rep K G p v) :
    ∃ a vs, v = .ref a ∧ RepL K G xs vs ∧ ((∀ G1, Mon G G1 → SqL K G1.H a vs) ∨ (∀ G1, Mon G G1 → SqT K G1.H a vs)) := by
  cases p with
  | tup ys =>
    cases h
    cases r with
    | tup hh rr =>
      refine ⟨_, _, rfl, rr, .inr fun G1 M => ?_⟩
      exact (hh.mon M).sq
  | lst ys =>
    cases h
    cases r with
    | lst h1 h2 rr => exact ⟨_, _, rfl, rr, .inl fun G1 M => SqL.of (((M.fz _ h1).2).trans h2)⟩
  | scr ns =>
    cases h
    obtain ⟨a, rfl, q⟩ := r.scrM
    exact ⟨a, _, rfl, RepL.ints ns, .inl q⟩
  | _ => cases h
def dItems (d : Cd PV) : Cd (List PV) := bnd d fun p => lift (itemsF p)
theorem mi_val (he : ME X z e d) (hK : z.K = X.K := by rfl) : MI X z tg e (dItems d) := by
  refine PI.imp (PI.or (pi_list he) (pi_tup he)) fun σ H R ⟨G, env, S, e, A, P⟩ => ?_
  subst e
  unfold dItems bnd at P
  cases e : d env S with
  | bad => rw [e] at P; exact P.elim
  | raise c w e1 s1 =>
    rw [e] at P
    exact .inl ⟨G, env, S, rfl, A, by rw [e]; exact P⟩
  | ok p env1 S1 =>
    rw [e] at P
    unfold lift Out.bind at P
    cases q : itemsF p with
    | none => simp only [q] at P; exact P.elim
    | some xs =>
      simp only [q] at P
      by_cases ht : ∃ ys, p = .tup ys
      · obtain ⟨ys, rfl⟩ := ht
        cases q
        refine .inr ⟨G, env, S, rfl, A, ?_⟩
        rw [e]
        intro v G1 m1 A1 r1
        obtain ⟨a, vs, rfl, hq, rr⟩ := r1.sqT
        cases r1 with
        | tup hh rr' =>
          have hst : ∀ G2, Mon G1 G2 → SqT z.K G2.H a _ := fun G2 M => (hh.mon M).sq
          refine ⟨a, rfl, ⟨_, by rw [← hK]; exact hst G1 (Mon.refl _)⟩, ?_⟩
          rw [← hK]
          exact P _ G1 m1 A1 (enum_tup rr' hst)
      · refine .inl ⟨G, env, S, rfl, A, ?_⟩
        rw [e]
        intro v G1 m1 A1 r1
        obtain ⟨a, vs, rfl, rr, hst⟩ := itemsF_rep q r1
        rcases hst with hst | hst
        · refine ⟨a, rfl, ⟨vs, by rw [← hK]; exact hst G1 (Mon.refl _)⟩, ?_⟩
          rw [← hK]
          exact P _ G1 m1 A1 (enum_list rr hst)
        · cases p with
          | tup ys => exact absurd ⟨ys, rfl⟩ ht
          | lst ys =>
            cases r1 with
            | lst h1 h2 rr2 =>
              cases q
              have hst : ∀ G2, Mon G1 G2 → SqL z.K G2.H a _ := fun G2 M => SqL.of (((M.fz _ h1).2).trans h2)
              refine ⟨a, rfl, ⟨_, by rw [← hK]; exact hst G1 (Mon.refl _)⟩, ?_⟩
              rw [← hK]
              exact P _ G1 m1 A1 (enum_list rr2 hst)
          | scr ns =>
            obtain ⟨a', ea, hst⟩ := r1.scrM
            cases ea
            · cases q
              refine ⟨a, rfl, ⟨_, by rw [← hK]; exact hst G1 (Mon.refl _)⟩, ?_⟩
              rw [← hK]
              exact P _ G1 m1 A1 (enum_list (RepL.ints ns) hst)
          | _ => cases q
theorem enum_range {K : PySem.W.Frag} {G : Wd} (lo : Int) (n : Nat) : Enum K (Itr lo n) G ((List.range n).map fun (i : Nat) => PV.int (lo + i)) :=
  ⟨fun i G1 M hl => (by simpa using hl : n ≤ i), fun i p G1 M su e => by
    have hi : i < n := by
      have := (List.getElem?_eq_some_iff.mp e).1
      simpa using this
    refine ⟨hi, fun x H' y => ⟨G1, y.1.symm, .refl G1, su, ?_⟩⟩
    rw [y.2]
    have : p = .int (lo + i) := by
      rw [List.getElem?_map, List.getElem?_range hi] at e
      exact (Option.some.inj e).symm
    rw [this]
    exact .int _⟩
def okR (i : Int) : Bool := decide (-1073741824 < i) && decide (i < 1073741824)
theorem okR_b {i : Int} (h : okR i = true) : -(2 ^ 62) ≤ i ∧ i < 2 ^ 62 := by
  unfold okR at h
  simp only [Bool.and_eq_true, decide_eq_true_eq] at h
  have e : (2 : Int) ^ 62 = 4611686018427387904 := by decide
  rw [e]
  omega
/-- range(j), range(i, j) -/
def rng1 (ps : List PV) : Option (List PV) := match ps with
  | [.int j] => if okR j = true then some ((List.range j.toNat).map fun (i : Nat) => PV.int i) else none
  | _ => none
def rng2 (ps : List PV) : Option (List PV) := match ps with
  | [.int i, .int j] => if (okR i && okR j) = true then some ((List.range (j - i).toNat).map fun (k : Nat) => PV.int (i + k)) else none
  | _ => none
def dRng1 (d : Cd (List PV)) : Cd (List PV) := bnd d fun ps => lift (rng1 ps)
def dRng2 (d : Cd (List PV)) : Cd (List PV) := bnd d fun ps => lift (rng2 ps)
theorem mi_range1 {a : Expr} (hm : X.mg "range" = none) (ha : MA X z [a] da) (hg : Gl X "range" := by rfl) (hs : starEach [a] X.env = [(false, eval a X.env)] := by rfl) : MI X z tg (.Call (.Name "range" p) [a] [] pos) (dRng1 da) := by
  refine PI.imp (pi_range1 hg hm ha hs) fun σ H R ⟨G, env, S, e, A, P⟩ => ?_
  subst e
  refine toA lwI A P fun ps env1 S1 vs G1 m1 A1 r1 P1 => ?_
  unfold lift at P1
  cases e : rng1 ps with
  | none => simp only [e] at P1; exact P1.elim
  | some qs =>
    simp only [e] at P1
    match ps, e with
    | [.int j], e =>
      obtain ⟨v, rfl, r2⟩ := repL1 r1
      cases r2
      simp only [rng1] at e
      by_cases hj : okR j = true
      · rw [if_pos hj] at e
        cases e
        obtain ⟨h1, h2⟩ := okR_b hj
        refine ⟨j, rfl, h1, h2, P1 _ G1 (Mon.refl _) A1 ?_⟩
        have := enum_range (K := z.K) (G := G1) 0 j.toNat
        simpa using this
      · rw [if_neg hj] at e
        cases e
/-- zip of two lists, of two tuples -/
def isT : PV → Bool
  | .tup _ => true
  | _ => false
def zip2 (ps : List PV) : Option (List PV) := match ps with
  | [p, q] => match itemsF p, itemsF q with
    | some xs, some ys => if isT p = isT q then some ((xs.zip ys).map fun c => PV.tuz [c.1, c.2]) else none
    | _, _ => none
  | _ => none
def dZip (d : Cd (List PV)) : Cd (List PV) := bnd d fun ps => lift (zip2 ps)
theorem itemsF_L {K : PySem.W.Frag} {G : Wd} {p : PV} {xs : List PV} {v : V} (h : itemsF p = some xs) (hp : isT p = false) (r : Rep K G p v) : ∃ a vs, v = .ref a ∧ RepL K G xs vs ∧ ∀ G1, Mon G G1 → SqL K G1.H a vs := by
  cases p with
  | lst ys =>
    cases h
    cases r with
    | lst h1 h2 rr => exact ⟨_, _, rfl, rr, fun G1 M => SqL.of (((M.fz _ h1).2).trans h2)⟩
  | scr ns =>
    cases h
    obtain ⟨a, rfl, q⟩ := r.scrM
    exact ⟨a, _, rfl, RepL.ints ns, q⟩
  | tup ys => cases hp
  | _ => cases h
theorem itemsF_T {K : PySem.W.Frag} {G : Wd} {p : PV} {xs : List PV} {v : V} (h : itemsF p = some xs) (hp : isT p = true) (r : Rep K G p v) : ∃ a vs, v = .ref a ∧ RepL K G xs vs ∧ ∀ G1, Mon G G1 → SqT K G1.H a vs := by
  cases p with
  | tup ys =>
    cases h
    cases r with
    | tup hh rr =>
      refine ⟨_, _, rfl, rr, fun G1 M => ?_⟩
      exact (hh.mon M).sq
  | lst ys => cases hp
  | scr ns => cases hp
  | _ => cases h
theorem pair_new {K : PySem.W.Frag} {G1 : Wd} {T : Addr} {x y : V} {p q : PV} (su : Sure G1) (hn : G1.H T = none) (r1 : Rep K G1 p x) (r2 : Rep K G1 q y) : Ext G1 (G1.frozen T (.tup [x, y])) ∧ Sure (G1.frozen T (.tup [x, y])) ∧ Rep K (G1.frozen T (.tup [x, y])) (.tuz [p, q]) (.ref T) := by
  have M : Mon G1 (G1.frozen T (.tup [x, y])) := (Ext.frozen hn).mon su
  exact ⟨Ext.frozen hn, sure_frozen su hn, .tuz (.inr rfl) upd_same (.cons (r1.mon M) (.cons (r2.mon M) .nil))⟩
/-- enumerate of a list -/
def enumL (ps : List PV) : List PV := (ps.zipIdx).map fun c => PV.tuz [.int c.2, c.1]
theorem enum_enum {K : PySem.W.Frag} {G : Wd} {a : Addr} {vs : List V} {xs : List PV} (r1 : RepL K G xs vs) (h1 : ∀ G1, Mon G G1 → SqL K G1.H a vs) : Enum K (Ite K a) G (enumL xs) :=
  ⟨fun i G1 M hl => ⟨vs, h1 G1 M, by
    unfold enumL at hl
    rw [List.length_map, List.length_zipIdx] at hl
    rw [← r1.length]
    exact hl⟩, fun i p G1 M su e => by
    unfold enumL at e
    rw [List.getElem?_map, List.getElem?_zipIdx] at e
    cases q : xs[i]? with
    | none => rw [q] at e; cases e
    | some c =>
      rw [q] at e
      simp only [Option.map_some, Nat.zero_add] at e
      cases e
      obtain ⟨v, f1, g1⟩ := r1.get q
      refine ⟨⟨vs, v, h1 G1 M, f1⟩, fun x H' y => ?_⟩
      obtain ⟨T, x1, rfl, hn, rfl, k1⟩ := y
      have := k1 vs (h1 G1 M)
      rw [f1] at this
      cases this
      obtain ⟨z1, z2, z3⟩ := pair_new su hn (.int _) (g1.mon M)
      exact ⟨_, rfl, z1, z2, z3⟩⟩
end
end FS
set_option Elab.async false
set_option linter.all false
set_option maxRecDepth 100000
/-! FsComp: list comprehensions. -/
namespace FS
open PySem PySem.Spec L2
/-! ### the frame's own things put aside -/
/-- the world as it stands, without what the frame alone holds -/
noncomputable def Wd.less (G : Wd) (env : Env) (σ : St) : Wd := ⟨G.m, G.fz, open Classical in fun a => if ∃ i, IsOwn env i ∧ σ[i]? = some (some (.ref a)) then none else G.H a, G.T⟩
section
variable {K : PySem.W.Frag} {G0 G G2 : Wd} {env env2 : Env} {S S2 : Stt} {σ σ2 : St}
theorem less_of {a : Addr} {o : HO} (h : (G.less env σ).H a = some o) : G.H a = some o ∧ ¬ ∃ i, IsOwn env i ∧ σ[i]? = some (some (.ref a)) := by
  unfold Wd.less at h
  simp only at h
  split at h
  · cases h
  · exact ⟨h, by assumption⟩
theorem less_none {a : Addr} (h : (G.less env σ).H a = none) : G.H a = none ∨ ∃ i, IsOwn env i ∧ σ[i]? = some (some (.ref a)) := by
  unfold Wd.less at h
  simp only at h
  split at h
  · exact .inr (by assumption)
  · exact .inl h
theorem less_same {a : Addr} (h : ¬ ∃ i, IsOwn env i ∧ σ[i]? = some (some (.ref a))) : (G.less env σ).H a = G.H a := by
  unfold Wd.less
  simp only
  rw [if_neg h]
theorem less_nu {a : Addr} (h : Nu (G.less env σ).H a) : Nu G.H a ∨ ∃ i, IsOwn env i ∧ σ[i]? = some (some (.ref a)) := by
  rcases h with h | ⟨ps, h⟩
  · exact (less_none h).imp .inl id
  · exact .inl (.inr ⟨ps, (less_of h).1⟩)
theorem At.aside (A : At K G0 G S env σ) : At K (G.less env σ) G S env σ := by
  have up : ∀ a o, (G.less env σ).H a = some o → G.H a = some o := fun a o h => (less_of h).1
  refine ⟨A.st, A.en, ⟨⟨[], by show G.m = G.m ++ []; simp⟩, fun a h => .inl h, fun a h => h, fun a h => .inl h, fun a o h _ _ => up a o h, fun a h => ?_, rfl, fun h p hp => (h p hp).ext up⟩, fun i a ho e => ?_, A.sure⟩
  · by_cases q : ∃ i, IsOwn env i ∧ σ[i]? = some (some (.ref a))
    · unfold Wd.less
      refine .inl ?_
      simp only
      rw [if_pos q]
    · rcases h with h | ⟨ps, h⟩
      · exact .inl (by rw [less_same q]; exact h)
      · exact .inr ⟨ps, by rw [less_same q]; exact h⟩
  · unfold Wd.less
    refine .inl ?_
    simp only
    rw [if_pos ⟨i, ho, e⟩]
theorem At.back (A : At K G0 G S env σ) (B : At K (G.less env σ) G2 S2 env2 σ2) : At K G0 G2 S2 env2 σ2 := by
  have up : ∀ a, Nu (G.less env σ).H a → Nu G0.H a := fun a h => by
    rcases less_nu h with h | ⟨i, ho, e⟩
    · exact A.ent.there a h
    · exact A.mine i a ho e
  have own : ∀ a o, G.H a = some o → (∀ vs, o ≠ .lst vs) → (G.less env σ).H a = some o := fun a o h hl => by
    rw [less_same]
    · exact h
    · intro ⟨i, ho, e⟩
      obtain ⟨xs, ho⟩ := ho
      obtain ⟨b, vs, e1, e2, _⟩ := A.en.own i xs ho
      rw [e] at e1; cases e1
      rw [h] at e2
      exact hl vs (Option.some.inj e2)
  refine ⟨B.st, B.en, ⟨?_, fun a h => ?_, fun a h => B.ent.fz a (A.ent.fz a h), fun a h => ?_, fun a o h nt hm => ?_, fun a h => up a (B.ent.there a h), B.ent.T.trans A.ent.T, fun h => ?_⟩, fun i a ho e => up a (B.mine i a ho e), B.sure⟩
  · obtain ⟨r, e⟩ := A.ent.pre
    obtain ⟨r', e'⟩ := B.ent.pre
    exact ⟨r ++ r', by rw [e']; show G.m ++ r' = _; rw [e, List.append_assoc]⟩
  · rcases B.ent.new a h with h | h
    · exact A.ent.new a h
    · exact .inr (up a h)
  · rcases B.ent.fzn a h with h | h
    · exact A.ent.fzn a h
    · exact .inr (up a h)
  · have h1 := A.ent.keep a o h nt hm
    have h2 : ¬ ∃ i, IsOwn env i ∧ σ[i]? = some (some (.ref a)) := fun ⟨i, ho, e⟩ => (A.mine i a ho e).no h nt
    refine B.ent.keep a o (by rw [less_same h2]; exact h1) nt fun h3 => ?_
    rcases A.ent.new a h3 with q | q
    · exact hm q
    · exact q.no h nt
  · have q := A.ent.tb h
    rw [← A.ent.T] at q ⊢
    refine B.ent.tb fun p hp => ?_
    obtain ⟨ps, h1, h2, h3⟩ := q p hp
    refine ⟨ps, own _ _ h1 (fun vs e => by cases e), h2, fun pos cv hc => ?_⟩
    obtain ⟨c, e1, e2⟩ := h3 pos cv hc
    exact ⟨c, e1, own _ _ e2 (fun vs e => by cases e)⟩
end
/-! ### the block's own names -/
def wipeE (env : Env) : List Nat → Env
  | [] => env
  | v :: vs => (wipeE env vs).set v .none
def keepS : Option Slot → Slot
  | some (.val p) => .val p
  | _ => .none
def restE (e1 e2 : Env) : List Nat → Env
  | [] => e2
  | v :: vs => (restE e1 e2 vs).set v (keepS e1[v]?)
section
variable {z : Zx} {G : Wd} {env e1 e2 : Env} {S : Stt} {σ : St}
theorem wipe_at (A : At z.K z.G0 G S env σ) : ∀ vs : List Nat, At z.K z.G0 G S (wipeE env vs) (wipe σ vs)
  | [] => A
  | v :: vs => by
    unfold wipeE wipe
    exact (wipe_at A vs).setSlot (.inl rfl)
theorem wipe_get {σ : St} {i : Nat} : ∀ vs : List Nat, (wipe σ vs)[i]? = if i ∈ vs then (if i < σ.length then some none else none) else σ[i]?
  | [] => by simp [wipe]
  | v :: vs => by
    unfold wipe
    rw [getElem?_set', wipe_length, wipe_get vs]
    by_cases h : v = i
    · subst h
      simp
    · rw [if_neg h]
      have : i ≠ v := fun e => h e.symm
      simp [this]
theorem wipe_id {σ : St} (vs : List Nat) : wipe (wipe σ vs) vs = wipe σ vs := by
  apply List.ext_getElem?
  intro i
  rw [wipe_get, wipe_get, wipe_length]
  by_cases h : i ∈ vs
  · rw [if_pos h, if_pos h]
  · rw [if_neg h, if_neg h]
theorem restE_length (e1 e2 : Env) : ∀ vs : List Nat, (restE e1 e2 vs).length = e2.length
  | [] => rfl
  | v :: vs => by
    unfold restE
    rw [List.length_set, restE_length e1 e2 vs]
theorem restE_get {e1 e2 : Env} {i : Nat} : ∀ vs : List Nat, (restE e1 e2 vs)[i]? = if i ∈ vs then (if i < e2.length then some (keepS e1[i]?) else none) else e2[i]?
  | [] => by simp [restE]
  | v :: vs => by
    unfold restE
    rw [getElem?_set', restE_length, restE_get vs]
    by_cases h : v = i
    · subst h
      simp
    · rw [if_neg h]
      have : i ≠ v := fun e => h e.symm
      simp [this]
theorem keepS_own {o : Option Slot} {xs : List PV} : keepS o ≠ .own xs := by
  intro h
  cases o with
  | none => cases h
  | some s => cases s <;> cases h
theorem keepS_exc {o : Option Slot} {a d : Addr} {w : PV} : keepS o ≠ .exc a d w := by
  intro h
  cases o with
  | none => cases h
  | some s => cases s <;> cases h
theorem keepS_val {o : Option Slot} {p : PV} (h : keepS o = .val p) : o = some (.val p) := by
  cases o with
  | none => cases h
  | some s =>
    cases s with
    | val q => cases h; rfl
    | none => cases h
    | own xs => cases h
    | exc a d w => cases h
theorem rest_own {σ : St} {vs : List Nat} {i : Nat} {xs : List PV} {a : Addr} (h : (restE e1 e2 vs)[i]? = some (.own xs)) : i ∉ vs ∧ e2[i]? = some (.own xs) := by
  rw [restE_get] at h
  by_cases hi : i ∈ vs
  · rw [if_pos hi] at h
    split at h
    · exact absurd (Option.some.inj h) keepS_own
    · cases h
  · rw [if_neg hi] at h
    exact ⟨hi, h⟩
/-- behind the block the names of the frame are as they were -/
theorem rest_at {G1 : Wd} {S1 : Stt} {vs : List Nat} (A1 : At z.K z.G0 G1 S1 e1 σ) (M : Mon G1 G) (A : At z.K z.G0 G S e2 (wipe σ vs)) : At z.K z.G0 G S (restE e1 e2 vs) σ := by
  have ow : ∀ (i : Nat) (xs : List PV), (restE e1 e2 vs)[i]? = some (.own xs) → e2[i]? = some (.own xs) ∧ (wipe σ vs)[i]? = σ[i]? := fun i xs h => by
    obtain ⟨h1, h2⟩ := rest_own (σ := σ) (a := 0) h
    exact ⟨h2, by rw [wipe_get, if_neg h1]⟩
  refine ⟨A.st, ⟨by rw [restE_length, A.en.len, wipe_length], fun i p h => ?_, fun i xs h => ?_, fun i b d w h => ?_, fun i j a h1 h2 q1 q2 => ?_⟩, A.ent, fun i a h q => ?_, A.sure⟩
  · rw [restE_get] at h
    by_cases hi : i ∈ vs
    · rw [if_pos hi] at h
      split at h
      · obtain ⟨v, q1, q2⟩ := A1.en.val i p (keepS_val (Option.some.inj h))
        exact ⟨v, q1, q2.mon M⟩
      · cases h
    · rw [if_neg hi] at h
      obtain ⟨v, q1, q2⟩ := A.en.val i p h
      rw [wipe_get, if_neg hi] at q1
      exact ⟨v, q1, q2⟩
  · obtain ⟨h1, h2⟩ := ow i xs h
    obtain ⟨a, ws, q1, q⟩ := A.en.own i xs h1
    rw [h2] at q1
    exact ⟨a, ws, q1, q⟩
  · rw [restE_get] at h
    by_cases hi : i ∈ vs
    · rw [if_pos hi] at h
      split at h
      · exact absurd (Option.some.inj h) keepS_exc
      · cases h
    · rw [if_neg hi] at h
      obtain ⟨q1, q2⟩ := A.en.exc i b d w h
      rw [wipe_get, if_neg hi] at q1
      exact ⟨q1, q2⟩
  · obtain ⟨xs, h1⟩ := h1
    obtain ⟨ys, h2⟩ := h2
    obtain ⟨h1, f1⟩ := ow i xs h1
    obtain ⟨h2, f2⟩ := ow j ys h2
    exact A.en.dis i j a ⟨xs, h1⟩ ⟨ys, h2⟩ (f1.trans q1) (f2.trans q2)
  · obtain ⟨xs, h⟩ := h
    obtain ⟨h, f⟩ := ow i xs h
    exact A.mine i a ⟨xs, h⟩ (f.trans q)
/-- a list that nobody else holds, changed -/
theorem At.pokeAlone {a : Addr} {vs vs' : List V} (A : At z.K z.G0 G S env σ) (al : Alone z G env σ a vs) : Mon G ⟨G.m, G.fz, upd G.H a (.lst vs'), G.T⟩ ∧ At z.K z.G0 ⟨G.m, G.fz, upd G.H a (.lst vs'), G.T⟩ S env σ ∧ Alone z ⟨G.m, G.fz, upd G.H a (.lst vs'), G.T⟩ env σ a vs' := by
  have M : Mon G ⟨G.m, G.fz, upd G.H a (.lst vs'), G.T⟩ := ⟨⟨[], by simp⟩, fun c hc => ⟨hc, upd_ne (fun z => al.nf (by rw [← z]; exact hc))⟩⟩
  refine ⟨M, ⟨⟨A.st.len, A.st.nd, A.st.nf, fun j c o h1 h2 => ?_⟩, A.en.over M fun j c ho e => ?_, ⟨A.ent.pre, A.ent.new, A.ent.fz, A.ent.fzn, fun c o h1 nt h2 => ?_, fun c hc => ?_, A.ent.T, fun h => tabs_poke al.at_ (A.ent.tb h)⟩, A.mine, fun c hc => ?_⟩, ⟨upd_same, al.nf, al.nm, al.n0, al.no⟩⟩
  · have hne : c ≠ a := fun z => al.nm (by rw [← z]; exact List.mem_of_getElem? h1)
    show RepO z.K _ o (upd G.H a (.lst vs') c)
    rw [upd_ne hne]
    exact (A.st.ob j c o h1 h2).mono M
  · have hne : c ≠ a := fun z => al.no j ho (by rw [e, z])
    obtain ⟨ys, ho⟩ := ho
    obtain ⟨b, ws, q1, q2, _, q4, q5⟩ := A.en.own j ys ho
    rw [e] at q1
    cases q1
    exact ⟨upd_ne hne, q4, q5⟩
  · have hne : c ≠ a := fun z => by rw [z] at h1; exact al.n0.no h1 nt
    exact (upd_ne hne).trans (A.ent.keep c o h1 nt h2)
  · exact A.ent.there c (nu_poke hc)
  · have hne : c ≠ a := fun z => al.nf (by rw [← z]; exact hc)
    obtain ⟨o, q, nt⟩ := A.sure c hc
    exact ⟨o, (upd_ne hne).trans q, nt⟩
end
/-! ### the judgements of a block -/
abbrev zc (z : Zx) (G0 : Wd) : Zx := ⟨z.K, z.mg, G0, fun _ _ _ _ => False⟩
def REb (z : Zx) (d : Cd PV) : TE := fun σ H Q => ∃ G0, RE (zc z G0) d σ H Q
def RTb (z : Zx) (d : Cd Bool) : TT := fun σ H Q => ∃ G0, RT (zc z G0) d σ H Q
section
variable {X : Cx} {z : Zx} {pos p apos cpos : Pos}
abbrev MEb (X : Cx) (z : Zx) (e : Expr) (d : Cd PV) : Prop := ∀ G0, ME X (zc z G0) e d
def MTsb (X : Cx) (z : Zx) (e : List Expr) (d : Cd Bool) : Prop := PTs X e (RTb z d)
theorem mts_nil : MTsb X z [] (ret true) := ⟨fun pins s σ H Q I h => by
  obtain ⟨G0, G, env, S, e, A, P⟩ := h
  subst e
  exact pts_nil.run pins s σ _ Q I (P G (Mon.refl _) A)⟩
theorem mts_one {c : Expr} {t : Cd Bool} (h : ∀ G0, MT X (zc z G0) c t) : MTsb X z [c] t := ⟨fun pins s σ H Q I q => by
  obtain ⟨G0, q⟩ := q
  exact (pts_one (h G0)).run pins s σ H Q I q⟩
/-- a target of a block: names of the block alone -/
def PostGc (z : Zx) (G : Wd) (own : List Nat) (σ : St) (Q : St → Hp → Prop) : Out Unit → Prop
  | .ok _ env S => ∀ (σ' : St) (G' : Wd), Mon G G' → At z.K z.G0 G' S env σ' → wipe σ' own = wipe σ own → Q σ' G'.H
  | .raise c w env S => ∀ σ', PRaise z G c w env S σ'
  | .bad => False
def RGc (z : Zx) (own : List Nat) (d : PV → Cd Unit) : TG := fun v σ H Q => ∃ G0 G env S p, G.H = H ∧ At z.K G0 G S env σ ∧ Rep z.K G p v ∧ PostGc (zc z G0) G own σ Q (d p env S)
def RGcs (z : Zx) (own : List Nat) (d : List PV → Cd Unit) : TGs := fun vs σ H Q => ∃ G0 G env S ps, G.H = H ∧ At z.K G0 G S env σ ∧ RepL z.K G ps vs ∧ PostGc (zc z G0) G own σ Q (d ps env S)
abbrev MGc (X : Cx) (z : Zx) (own : List Nat) (e : Expr) (d : PV → Cd Unit) : Prop := PG X e (RGc z own d)
abbrev MGcs (X : Cx) (z : Zx) (own : List Nat) (e : List Expr) (d : List PV → Cd Unit) : Prop := PGs X e (RGcs z own d)
theorem PostGc.later {G G1 : Wd} {own : List Nat} {σ : St} {Q : St → Hp → Prop} {o : Out Unit} (h : PostGc z G own σ Q o) (M : Mon G G1) : PostGc z G1 own σ Q o := by
  cases o with
  | ok p env S => exact fun σ' G' m a => h σ' G' (M.trans m) a
  | raise c w env S => exact fun σ' => (h σ').later M
  | bad => exact h
theorem wipe_set {σ : St} {i : Nat} {v : Option V} {own : List Nat} (h : i ∈ own) : wipe (σ.set i v) own = wipe σ own := by
  apply List.ext_getElem?
  intro j
  rw [wipe_get, wipe_get, List.length_set]
  by_cases hj : j ∈ own
  · rw [if_pos hj, if_pos hj]
  · rw [if_neg hj, if_neg hj, List.getElem?_set_ne (fun e => hj (by rw [← e]; exact h))]
theorem mgc_name (i : Nat) {x : Str} {own : List Nat} (hN : X.N.Nodup) (ho : i ∈ own := by decide) (hi : X.N[i]? = some x := by rfl) (hx : Loc X.env.scope x := by first | exact Or.inl rfl | exact Or.inr rfl) (hf : X.fn x = true ∨ X.env.scope.names.lookup x = some .local := by first | exact .inl rfl | exact .inr rfl | assumption) :
    MGc X z own (.Name x pos) (gSet i) := (pg_name hN hi hx hf).imp fun v σ H Q ⟨G0, G, env, S, p, e, A, r, P⟩ => by
  subst e
  exact P _ G (Mon.refl G) (At.setVal (z := zc z G0) A r) (wipe_set ho)
theorem mgcs_nil {own : List Nat} : MGcs X z own [] gsNil := pgs_nil.imp fun vs σ H Q ⟨G0, G, env, S, ps, e, A, r, P⟩ => by
  subst e
  cases r with
  | nil => exact ⟨rfl, P σ G (Mon.refl G) A rfl⟩
  | cons _ _ => exact P.elim
theorem toGc {β : Type} {G0 : Wd} {F : Wd → Out β → Prop} {G : Wd} {env : Env} {S : Stt} {σ : St} {own : List Nat} (L : Lw (zc z G0) F) {d : PV → Cd Unit} {p : PV} {v : V} {k : Unit → Cd β} {R : St → Hp → Prop} (A : At z.K G0 G S env σ) (r : Rep z.K G p v) (P : F G (bnd (d p) k env S))
    (h : ∀ env1 S1 σ1 G1, Mon G G1 → At z.K G0 G1 S1 env1 σ1 → wipe σ1 own = wipe σ own → F G1 (k () env1 S1) → R σ1 G1.H) : RGc z own d v σ G.H R := by
  refine ⟨G0, G, env, S, p, rfl, A, r, ?_⟩
  unfold bnd at P
  cases e : d p env S with
  | ok u env1 S1 =>
    rw [e] at P
    exact fun σ1 G1 m a w => h env1 S1 σ1 G1 m a w (L.later _ _ _ P m)
  | raise c w env1 S1 =>
    rw [e] at P
    exact L.rais _ _ _ _ _ P
  | bad =>
    rw [e] at P
    exact (L.bad _ P).elim
theorem mgcs_cons {e : Expr} {es : List Expr} {own : List Nat} {g : PV → Cd Unit} {gs : List PV → Cd Unit} (h : MGc X z own e g) (hr : MGcs X z own es gs) (hs : (assignEach (e :: es) X.env).map (·.2) = assign e X.env :: (assignEach es X.env).map (·.2) := by rfl) : MGcs X z own (e :: es) (gsCons g gs) :=
  (pgs_cons h hr hs).imp fun vs σ H Q ⟨G0, G, env, S, ps, e, A, r, P⟩ => by
    subst e
    cases r with
    | nil => exact P.elim
    | cons r0 rr =>
      have L : Lw (zc z G0) (fun G o => PostGc (zc z G0) G own σ Q o) := ⟨fun _ _ _ h m => h.later m, fun _ _ _ _ _ h => h, fun _ h => h⟩
      refine ⟨_, _, rfl, toGc L A r0 P fun env1 S1 σ1 G1 m1 A1 w1 P1 => ⟨G0, G1, env1, S1, _, rfl, A1, rr.mon m1, ?_⟩⟩
      cases e : gs _ env1 S1 with
      | ok u e2 s2 =>
        rw [e] at P1
        exact fun σ' G' m a w => P1 σ' G' m a (w.trans w1)
      | raise c w e2 s2 =>
        rw [e] at P1
        exact P1
      | bad =>
        rw [e] at P1
        exact P1
theorem mgc_tup {es : List Expr} {k : Nat} {own : List Nat} {gs : List PV → Cd Unit} {n : Nat} (h : MGcs X z own es gs) (hK : z.K = X.K := by rfl) (hc : X.calm = true := by rfl) (hn : (assignEach es X.env).length = n := by rfl) (hst : (assignEach es X.env).findIdx? (·.1) = none := by rfl) : MGc X z own (.Tuple es k pos) (gTupD n gs) :=
  (pg_tup hc h hn hst).imp fun v σ H Q ⟨G0, G, env, S, p, e, A, r, P⟩ => by
    subst e
    cases p with
    | tup ps =>
      obtain ⟨a, vs, rfl, q, rr⟩ := r.sqT
      unfold gTupD at P
      by_cases hl : ps.length = n
      · simp only [if_pos hl] at P
        exact ⟨a, vs, rfl, by rw [← hK]; exact q, by rw [← rr.length]; exact hl, G0, G, env, S, ps, rfl, A, rr, P⟩
      · simp only [if_neg hl] at P
        exact P.elim
    | tuz ps =>
      obtain ⟨a, vs, rfl, q, rr⟩ := r.sqZ
      unfold gTupD at P
      by_cases hl : ps.length = n
      · simp only [if_pos hl] at P
        exact ⟨a, vs, rfl, by rw [← hK]; exact q, by rw [← rr.length]; exact hl, G0, G, env, S, ps, rfl, A, rr, P⟩
      · simp only [if_neg hl] at P
        exact P.elim
    | _ => exact P.elim
/-! ### the comprehension -/
def compL (own : List Nat) (g : PV → Cd Unit) (t : Cd Bool) (d : Cd PV) : List PV → List PV → Cd (List PV)
  | [], acc => ret acc
  | p :: ps, acc => bnd (g p) fun _ => bnd t fun b => if b = true then bnd d fun w => if acc.length < sizeLine then fun e s => compL own g t d ps (acc ++ [w]) (wipeE e own) s else fun _ _ => .bad
    else fun e s => compL own g t d ps acc (wipeE e own) s
def dComp (items : Cd (List PV)) (own : List Nat) (g : PV → Cd Unit) (t : Cd Bool) (d : Cd PV) : Cd (List PV) := bnd items fun ps => fun e s => match compL own g t d ps [] (wipeE e own) s with
  | .ok xs e2 s2 => .ok xs (restE e e2 own) s2
  | _ => .bad
/-- the block's end, as the frame sees it -/
def PP (z : Zx) (σ : St) (Q : VK) (env1 : Env) (own : List Nat) (G : Wd) : Out (List PV) → Prop
  | .ok xs e2 s2 => PostF z G σ Q (.ok xs (restE env1 e2 own) s2)
  | _ => False
theorem lwPP {σ : St} {Q : VK} {env1 : Env} {own : List Nat} {z' : Zx} : Lw z' (fun G o => PP z σ Q env1 own G o) := ⟨fun G G1 o h m => by
    cases o with
    | ok xs e2 s2 => exact PostF.later (z := z) (o := .ok xs (restE env1 e2 own) s2) h m
    | raise => exact h
    | bad => exact h, fun _ _ _ _ _ h => h.elim, fun _ h => h⟩
theorem comp_rd {items : Cd (List PV)} {own : List Nat} {g : PV → Cd Unit} {t : Cd Bool} {d : Cd PV} {σ : St} {H : Hp} {Q : VK} (h : RF z (dComp items own g t d) σ H Q) :
    tLc (RI z items) (RGc z own g) (RTb z t) (REb z d) own σ H Q := by
  obtain ⟨G, env, S, e, A, P⟩ := h
  subst e
  refine toI lwF A P fun ps env1 S1 J G1 m1 A1 en P1 => ?_
  intro D hD
  have A0 := wipe_at A1 own
  have start : PP z σ Q env1 own G1 (compL own g t d ps [] (wipeE env1 own) S1) := by
    cases e : compL own g t d ps [] (wipeE env1 own) S1 with
    | ok xs e2 s2 => simp only [e] at P1; exact P1
    | raise c w e2 s2 => simp only [e] at P1; exact P1.elim
    | bad => simp only [e] at P1; exact P1.elim
  refine ⟨fun i m H => m = ps.length - i ∧ i ≤ ps.length ∧ ∃ G e s acc vs, G.H = H ∧ Mon G1 G ∧ At z.K z.G0 G s e (wipe σ own) ∧ Alone z G e (wipe σ own) D vs ∧ RepL z.K G acc vs ∧ PP z σ Q env1 own G (compL own g t d (ps.drop i) acc e s), ⟨ps.length, by simp, Nat.zero_le _, G1.fresh D (.lst []), _, _, [], [], rfl, (Ext.fresh hD).mon A1.sure, A0.fresh hD, A0.alone (vs := []) hD, .nil, ?_⟩, ?_⟩
  · exact (lwPP (z := z) (z' := z)).later _ _ _ (by simpa using start) ((Ext.fresh hD).mon A1.sure)
  · rintro i m H ⟨rfl, hi, G, e, s, acc, vs, rfl, M, A, al, ra, PQ⟩
    by_cases hl : i < ps.length
    · have ed : ps.drop i = ps[i] :: ps.drop (i + 1) := List.drop_eq_getElem_cons hl
      rw [ed] at PQ
      obtain ⟨q1, q2⟩ := en.go i ps[i] G M A.sure (by simp [hl])
      refine .inr ⟨q1, fun H' => ∃ G e s acc vs, G.H = H' ∧ Mon G1 G ∧ At z.K z.G0 G s e (wipe σ own) ∧ Alone z G e (wipe σ own) D vs ∧ RepL z.K G acc vs ∧ PP z σ Q env1 own G (compL own g t d (ps.drop (i + 1)) acc e s), fun H' h => ⟨ps.length - (i + 1), by omega, rfl, hl, h⟩, fun x H' y => ?_⟩
      obtain ⟨G2, rfl, x2, s2, r2⟩ := q2 x H' y
      have m2 := x2.mon A.sure
      have A2 := A.ext x2 s2
      have al2 : Alone z G2 e (wipe σ own) D vs := ⟨x2.keep _ _ al.at_, fun h => (x2.fzn D h).elim al.nf (fun h => by rw [al.at_] at h; cases h), by rw [x2.m]; exact al.nm, al.n0, al.no⟩
      have hnD : ¬ ∃ i, IsOwn e i ∧ (wipe σ own)[i]? = some (some (.ref D)) := fun ⟨i, ho, q⟩ => al2.no i ho q
      have hD0 : (G2.less e (wipe σ own)).H D = some (.lst vs) := (less_same hnD).trans al2.at_
      -- D stands while the block runs
      have keepD : ∀ {G3 : Wd} {S3 : Stt} {e3 : Env} {σ3 : St}, At z.K (G2.less e (wipe σ own)) G3 S3 e3 σ3 → Alone z G3 e3 σ3 D vs := fun {G3 S3 e3 σ3} B =>
        ⟨B.ent.keep D _ hD0 nt_lst al2.nm, fun h => (B.ent.fzn D h).elim al2.nf (fun h => h.no hD0 nt_lst), fun h => (B.ent.new D h).elim al2.nm (fun h => h.no hD0 nt_lst), al2.n0,
          fun i ho q => (B.mine i D ho q).no hD0 nt_lst⟩
      have Mx := M.trans m2
      refine toGc (lwPP (z := z)) A2.aside r2 ((lwPP (z := z) (z' := z)).later _ _ _ PQ m2) fun env3 S3 σ3 G3 m3 B3 w3 P3 => ⟨w3.trans (wipe_id own), G2.less e (wipe σ own), ?_⟩
      refine toT (lwPP (z := z)) B3 P3 fun b env4 S4 G4 m4 B4 P4 => ?_
      -- the frame behind a turn
      have fin : ∀ {G5 : Wd} {S5 : Stt} {e5 : Env}, At z.K (G2.less e (wipe σ own)) G5 S5 e5 σ3 → At z.K z.G0 G5 S5 (wipeE e5 own) (wipe σ own) ∧ Alone z G5 (wipeE e5 own) (wipe σ own) D vs := fun {G5 S5 e5} B => by
        have hw : wipe σ3 own = wipe σ own := w3.trans (wipe_id own)
        have B' := wipe_at (z := zc z (G2.less e (wipe σ own))) B own
        rw [hw] at B'
        exact ⟨A2.back B', keepD B'⟩
      cases b with
      | false =>
        rw [if_neg Bool.false_ne_true] at P4 ⊢
        obtain ⟨F1, F2⟩ := fin B4
        exact ⟨G4, _, S4, acc, vs, rfl, (Mx.trans m3).trans m4, F1, F2, ra.mon ((m2.trans m3).trans m4), P4⟩
      | true =>
        rw [if_pos rfl] at P4 ⊢
        refine ⟨G2.less e (wipe σ own), toE (lwPP (z := z)) B4 P4 fun w env5 S5 v G5 m5 B5 r5 P5 => ?_⟩
        obtain ⟨F1, F2⟩ := fin B5
        have Ma := (m2.trans m3).trans (m4.trans m5)
        by_cases hz : acc.length < sizeLine
        · rw [if_pos hz] at P5
          refine ⟨vs, F2.at_, by rw [← ra.length]; exact hz, ?_⟩
          obtain ⟨N1, N2, N3⟩ := F1.pokeAlone (vs' := vs ++ [v]) F2
          exact ⟨_, _, S5, acc ++ [w], vs ++ [v], rfl, ((Mx.trans m3).trans (m4.trans m5)).trans N1, N2, N3, ((ra.mon Ma).snoc r5).mon N1, (lwPP (z := z) (z' := z)).later _ _ _ P5 N1⟩
        · rw [if_neg hz] at P5
          exact P5.elim
    · have ed : ps.drop i = [] := List.drop_eq_nil_of_le (by omega)
      rw [ed] at PQ
      refine .inl ⟨en.stop i G M (by omega), ?_⟩
      have F := rest_at A1 M A
      exact PQ D vs G (Mon.refl _) F ra al.at_ al.nf al.nm al.n0 fun j ho q => by
        obtain ⟨xs, ho⟩ := ho
        obtain ⟨h1, h2⟩ := rest_own (σ := σ) (a := 0) ho
        exact al.no j ⟨xs, h2⟩ (by rw [wipe_get, if_neg h1]; exact q)
variable {elt tg iter : Expr} {ifs : List Expr} {scope : Scope} {items : Cd (List PV)} {g : PV → Cd Unit} {t : Cd Bool} {d : Cd PV}
theorem peb {e : Expr} {d : Cd PV} (h : MEb X z e d) : PE X e (REb z d) := ⟨fun pins s σ H Q I ⟨G0, q⟩ => (h G0).run pins s σ H Q I q⟩
theorem mf_comp (own : List (Str × Nat)) (hN : X.N.Nodup) (hi : MI X z tg iter items) {N : List Str} {sc : Scope} (ok : blkC N sc scope own = true)
    (hg : ∀ (s : Shared) (H : Hp) (C : Addr) (cl : List (Str × Addr)) (fp : List Addr), MGc (X.blk s H scope (compEnvC scope cl C X.env) fp) z (own.map (·.2)) tg g)
    (ht : ∀ (s : Shared) (H : Hp) (C : Addr) (cl : List (Str × Addr)) (fp : List Addr), MTsb (X.blk s H scope (compEnvC scope cl C X.env) fp) z ifs t)
    (he : ∀ (s : Shared) (H : Hp) (C : Addr) (cl : List (Str × Addr)) (fp : List Addr), MEb (X.blk s H scope (compEnvC scope cl C X.env) fp) z elt d) (hc : X.calm = true := by rfl) (hs : ∀ x, foldedSetIterable iter X.env x = pure x := by intro _; rfl) (hXN : X.N = N := by rfl) (hsc : X.env.scope = sc := by rfl) :
    MF X z (.ListComp elt [⟨tg, iter, ifs, 0⟩] scope pos) (dComp items (own.map (·.2)) g t d) :=
  (pe_lc hc hN hi (blkOk_by (by rw [hXN, hsc]; exact ok)) hg ht (fun s H C cl fp => peb (he s H C cl fp)) hs).imp fun σ H Q h => comp_rd h
/-- y = [..], y a local name of the same row: a value -/
theorem ms_comp (i : Nat) {y : Str} {py spos : Pos} (own : List (Str × Nat)) (hN : X.N.Nodup) (hi : MI X z tg iter items) {N : List Str} {sc : Scope} (ok : blkC N sc scope own = true)
    (hg : ∀ (s : Shared) (H : Hp) (C : Addr) (cl : List (Str × Addr)) (fp : List Addr), MGc (X.blk s H scope (compEnvC scope cl C X.env) fp) z (own.map (·.2)) tg g)
    (ht : ∀ (s : Shared) (H : Hp) (C : Addr) (cl : List (Str × Addr)) (fp : List Addr), MTsb (X.blk s H scope (compEnvC scope cl C X.env) fp) z ifs t)
    (he : ∀ (s : Shared) (H : Hp) (C : Addr) (cl : List (Str × Addr)) (fp : List Addr), MEb (X.blk s H scope (compEnvC scope cl C X.env) fp) z elt d) (hy : X.N[i]? = some y := by rfl) (hyl : X.env.scope.names.lookup y = some .local := by rfl)
    (hsw : swapsWith (.ListComp elt [⟨tg, iter, ifs, 0⟩] scope pos) (some (.Name y py)) spos.line X.env = pure true := by exact sw_true rfl rfl rfl (by decide +kernel))
    (hc : X.calm = true := by rfl) (hs : ∀ x, foldedSetIterable iter X.env x = pure x := by intro _; rfl) (hXN : X.N = N := by rfl) (hsc : X.env.scope = sc := by rfl) :
    MS X z (.Assign [.Name y py] (.ListComp elt [⟨tg, iter, ifs, 0⟩] scope pos) spos) (dSet i (dFrz (dComp items (own.map (·.2)) g t d))) :=
  PS.imp (ps_setLc hc hN hy hyl hsw hi (blkOk_by (by rw [hXN, hsc]; exact ok)) hg ht (fun s H C cl fp => peb (he s H C cl fp)) hs) fun D σ H ⟨G, env, S, e, A, P⟩ => by
    subst e
    unfold dSet dFrz at P
    rw [bnd_assoc] at P
    exact comp_rd (toF lwS A P fun xs env1 S1 a vs G1 m1 A1 r1 al P1 => P1 _ (G1.freeze a) mon_freeze ((A1.freeze al).setVal (.lst (.inr rfl) al.at_ (r1.mon mon_freeze))))
/-- .. a list that the name alone holds -/
theorem ms_compO (i : Nat) {y : Str} {py spos : Pos} (own : List (Str × Nat)) (hN : X.N.Nodup) (hi : MI X z tg iter items) {N : List Str} {sc : Scope} (ok : blkC N sc scope own = true)
    (hg : ∀ (s : Shared) (H : Hp) (C : Addr) (cl : List (Str × Addr)) (fp : List Addr), MGc (X.blk s H scope (compEnvC scope cl C X.env) fp) z (own.map (·.2)) tg g)
    (ht : ∀ (s : Shared) (H : Hp) (C : Addr) (cl : List (Str × Addr)) (fp : List Addr), MTsb (X.blk s H scope (compEnvC scope cl C X.env) fp) z ifs t)
    (he : ∀ (s : Shared) (H : Hp) (C : Addr) (cl : List (Str × Addr)) (fp : List Addr), MEb (X.blk s H scope (compEnvC scope cl C X.env) fp) z elt d) (hy : X.N[i]? = some y := by rfl) (hyl : X.env.scope.names.lookup y = some .local := by rfl)
    (hsw : swapsWith (.ListComp elt [⟨tg, iter, ifs, 0⟩] scope pos) (some (.Name y py)) spos.line X.env = pure true := by exact sw_true rfl rfl rfl (by decide +kernel))
    (hc : X.calm = true := by rfl) (hs : ∀ x, foldedSetIterable iter X.env x = pure x := by intro _; rfl) (hXN : X.N = N := by rfl) (hsc : X.env.scope = sc := by rfl) :
    MS X z (.Assign [.Name y py] (.ListComp elt [⟨tg, iter, ifs, 0⟩] scope pos) spos) (dOwn i (dComp items (own.map (·.2)) g t d)) :=
  PS.imp (ps_setLc hc hN hy hyl hsw hi (blkOk_by (by rw [hXN, hsc]; exact ok)) hg ht (fun s H C cl fp => peb (he s H C cl fp)) hs) fun D σ H ⟨G, env, S, e, A, P⟩ => by
    subst e
    exact comp_rd (toF lwS A P fun xs env1 S1 a vs G1 m1 A1 r1 al P1 => P1 _ G1 (Mon.refl _) (A1.setOwn r1 al))
end
end FS
set_option Elab.async false
set_option linter.all false
set_option maxRecDepth 100000
/-! FsEnum: enumerate of lists and of tuples. -/
namespace RZ
open PySem PySem.Spec PyProof.Rows L2
set_option maxHeartbeats 1000000 in
theorem meets_enum_tuple {t : Addr} {items : Array Value} :
    Meets (Builtin.«enumerate.__new__» ⟨[.type "enumerate", .ref t], []⟩) (fun _ R s => s.heap.IsTuple t items ∧
      R (.ok (.ret (.ref (s.heap.push { cls := .type "tuple_iterator", data := .fields #[.ref t, .int 0 0] }).objs.size)))
        { s with heap := (s.heap.push { cls := .type "tuple_iterator", data := .fields #[.ref t, .int 0 0] }).push { cls := .type "enumerate", data := .fields #[.none, .bool false, .ref s.heap.objs.size, rawInt 0, .none, .none] } }) :=
  .of_wp fun prog w A R s h => by
    obtain ⟨hp, g, d, tk, os⟩ := s; obtain ⟨h1, h⟩ := h
    have hsub := sub_enumerate
    have q1 : ∀ {A' : Around} {E : Value → Shared → Prop} {Q : Value → Shared → Prop}, Q (.ref hp.objs.size) ⟨hp.push { cls := .type "tuple_iterator", data := .fields #[.ref t, .int 0 0] }, g, d, tk, os⟩ → wpAny (model prog w) A' (pyIter (.ref t)) Q E ⟨hp, g, d, tk, os⟩ :=
      fun q => wpAny_pyIter_tuple (s := ⟨hp, g, d, tk, os⟩) h1 q
    wp_walk using q1
    refine wpAny_stack_any fun st => wpAny_pure ?_
    split
    · rename_i c _ _ _ _ _
      cases (c == Value.type "enumerate")
      · wp_walk using q1
        exact ⟨_, rfl, h⟩
      · wp_walk using q1
        exact ⟨_, rfl, h⟩
    · wp_walk using q1
      exact ⟨_, rfl, h⟩
section
variable {prog : Program} {w : World} {A : Around} {E : Value → Shared → Prop} {s : Shared}
theorem call_enum_tuple {l : Addr} {items : Array Value} {Q : Value → Shared → Prop} (hL : s.heap.IsTuple l items)
    (h : ∀ h', IsEnum h' (s.heap.objs.size + 1) s.heap.objs.size 0 .none → h'.IsTupleIter s.heap.objs.size l 0 → h'.objs.size = s.heap.objs.size + 2 →
      (∀ b o, s.heap.get? b = some o → h'.get? b = some o) → Q (.ref (s.heap.objs.size + 1)) { s with heap := h' }) :
    wpAny (model prog w) A (call (.type "enumerate") [.ref l]) Q E s := by
  refine callType_new F.called_enumerate (by decide) (F.typeCall_enumerate_1 _) (F.newCall_enumerate_1 _) (fun obj => F.args_object_init_2 obj _) F.entry_enumerate_new
    meets_enum_tuple ⟨hL, ?_⟩
  have hz : (s.heap.push { cls := .type "tuple_iterator", data := .fields #[.ref l, .int 0 0] }).objs.size = s.heap.objs.size + 1 := Heap.size_push ..
  show _ ∧ _
  rw [hz]
  have he : IsEnum ((s.heap.push { cls := .type "tuple_iterator", data := .fields #[.ref l, .int 0 0] }).push
      { cls := .type "enumerate", data := .fields #[.none, .bool false, .ref s.heap.objs.size, rawInt 0, .none, .none] }) (s.heap.objs.size + 1) s.heap.objs.size 0 .none := by
    have := Heap.get?_push_size (s.heap.push { cls := .type "tuple_iterator", data := .fields #[.ref l, .int 0 0] })
      (o := { cls := .type "enumerate", data := .fields #[.none, .bool false, .ref s.heap.objs.size, rawInt 0, .none, .none] }) rfl
    rw [hz] at this; exact this
  refine ⟨⟨_, he, rfl⟩, h _ he ⟨_, Heap.get?_push_of_some _ (Heap.get?_push_size _ rfl), rfl, rfl⟩ (by rw [Heap.size_push, hz]) fun b o x => Heap.get?_push_of_some _ (Heap.get?_push_of_some _ x)⟩
end
/-- the tuple at a, each item in a new pair -/
def IteT (K : PySem.W.Frag) (a : Addr) : It :=
  ⟨fun i H => ∃ (xs : List V) (x : V), SqT K H a xs ∧ xs[i]? = some x, fun i H v H' => ∃ T x, v = .ref T ∧ H T = none ∧ H' = upd H T (.tup [.int (i : Nat), x]) ∧ ∀ xs, SqT K H a xs → xs[i]? = some x, fun i H => ∃ xs : List V, SqT K H a xs ∧ xs.length ≤ i⟩
theorem turn_enumT {P : Program} {w : World} {K : PySem.W.Frag} {elts : List Expr} {kk : Nat} {tpos : Pos} (a e it : Addr) :
    Turn P w K (.Tuple elts kk tpos) (IteT K a) [e, it] e (fun i h => (∃ old, IsEnum h e it ((i : Nat) : Int) old) ∧ h.IsTupleIter it a i ∧ e ≠ it ∧ a ≠ it ∧ e ≠ a) where
  mem := by simp
  obj := fun i h st b hb => by
    obtain ⟨⟨old, he⟩, ⟨o, ho, hc, hd⟩, _⟩ := st
    have e' : b = e ∨ b = it := by simpa using hb
    rcases e' with z | z
    · rw [z]; exact ⟨_, he, fun v q => nomatch q⟩
    · rw [z]; exact ⟨o, ho, fun v q => by rw [hd] at q; cases q⟩
  keep := fun i h h' st k => let ⟨⟨old, he⟩, hi, hne⟩ := st; ⟨⟨old, k e (by simp) _ he⟩, hi.at fun o q => k it (by simp) o q, hne⟩
  item := by
    intro X hP hw hK hc i pins s σ H E I hf st hg
    subst hP hw hK
    obtain ⟨⟨old, he⟩, hit, hne, hai, hea⟩ := st
    obtain ⟨xs, x, hq, hx⟩ := hg
    obtain ⟨its, rv, p, hz⟩ := I.tuple hq
    obtain ⟨u, hu, ru⟩ := rv.get hx
    have hel : e < s.heap.objs.size := Heap.lt_size he
    have hil : it < s.heap.objs.size := by obtain ⟨_, q, _⟩ := hit; exact Heap.lt_size q
    have hh : X.A.in1.handled = none := I.ok.hd hc
    have hlt : i < its.toArray.size := by
      have := (List.getElem?_eq_some_iff.mp hu).1
      simpa using this
    refine wpAny_pyNext_enum_itemD (Draws.tuple hh it a hai its.toArray) he ⟨hit, p⟩ hlt hne (by simp [hne, hea]) fun x' h' tk hPx ho hst hT hsz hk => ?_
    have ex : x' = u := by
      have h1 : its.toArray[i]? = some x' := hPx
      have h2 : its.toArray[i]? = some u := by simpa using hu
      exact Option.some.inj (h1.symm.trans h2)
    subst ex
    refine ⟨_, rfl, wpAny_letOwnedTupleGo_enum (s := { s with heap := h', toks := tk + 1 }) ho fun h'' he' sb => ?_⟩
    have hT2 : h''.get? s.heap.objs.size = some { cls := .type "tuple", data := .seq #[.int i tk, x'] } := (sb.2 _ (Nat.ne_of_gt hel)).trans hT
    have new : ObjOk X.prog X.w (upd H s.heap.objs.size (.tup [.int (i : Nat), x])) h'' s.heap.objs.size (.tup [.int (i : Nat), x]) :=
      ⟨by show 2 ≤ sizeLine; decide, [.int i tk, x'], .cons ⟨_, rfl⟩ (.cons ru .nil), ⟨_, hT2, rfl, _, rfl⟩⟩
    have I1 : Inv X pins σ (upd H s.heap.objs.size (.tup [.int (i : Nat), x])) { s with heap := h'', toks := tk + 1 } :=
      I.turnedNew (ch := [e, it]) (fun b ob hb q => (sb.2 b (fun z => hb (by simp [z]))).trans (hk b ob (fun z => hb (by simp [z])) (fun z => hb (by simp [z])) q)) hf (Nat.le_refl _) new
    refine ⟨.ref s.heap.objs.size, _, I1, rfl, ⟨_, x, rfl, I.hok.fresh (Nat.le_refl _), rfl, fun ys hy => by rw [I.tuple_inj hy hq]; exact hx⟩, ⟨⟨x', ?_⟩, hst.1.at fun o q => (sb.2 it (Ne.symm hne)).trans q, hne, hai, hea⟩, fun b hb => ?_⟩
    · have e1 : ((i + 1 : Nat) : Int) = (i : Int) + 1 := by omega
      rw [e1]; exact he'
    · have hb' : b < s.heap.objs.size := by
        have e' : b = e ∨ b = it := by simpa using hb
        rcases e' with z | z
        · rw [z]; exact hel
        · rw [z]; exact hil
      rw [upd_ne (Nat.ne_of_lt hb')]
      exact (hf b hb).1
  done := by
    intro X hP hw hK hc i pins s σ H E I hf st hg
    subst hP hw hK
    obtain ⟨⟨old, he⟩, hit, hne, hai, hea⟩ := st
    obtain ⟨xs, hq, hx⟩ := hg
    obtain ⟨its, rv, p, hz⟩ := I.tuple hq
    obtain ⟨f0, f1, f2, f3, f4, f5⟩ := hf it (by simp)
    have hl := rv.length
    have hh : X.A.in1.handled = none := I.ok.hd hc
    have hT : s.TypeIs (.ref e) "enumerate" := ⟨_, he, rfl⟩
    unfold pyNext
    refine wpAny_bind (wpAny_attempt (wpAny_callSpecial?_slot (name := Str.ofString "__next__") hT F.slot_enumerate_next
      (wpAny_call_entry F.slot_enumerate_next hT F.entry_enumerate_next ?_ (F.args_enumerate_next_1 _))))
    show wpAny _ _ (field (.ref e) 2 >>= _) _ _ _
    refine wpAny_bind (wpAny_field he rfl (x := .ref it) rfl ?_)
    refine wpAny_bind (wpAny_nextOf_tuple_end hh hit p (by simp; omega) fun h' x he' hx' => ?_)
    obtain ⟨o, ho, hcl⟩ := hx'
    refine wpAny_bind (wpAny_isInstance (T := "StopIteration") (b := true) ⟨o, ho, hcl⟩ isSubtype_stop ?_)
    exact wpAny_pure ⟨rfl, I.turned (t' := s.toks) (fun b o hb q => he' b o hb q) f0 f1 f3 f4 f5⟩
  self := fun A i s Q E st h => let ⟨⟨_, he⟩, _⟩ := st; wpAny_pyIter_enum he h
def iEnumA (K : PySem.W.Frag) (ta : TA) : TI := fun σ H R => ta σ H fun vs H1 => ∃ a xs, vs = [.ref a] ∧ ((SqL K H1 a xs ∧ R (Ite K a) H1) ∨ (SqT K H1 a xs ∧ R (IteT K a) H1))
theorem pi_enumA {X : Cx} {e : Expr} {ta : TA} {p pos tpos : Pos} {elts : List Expr} {kk : Nat} (hg : Gl X "enumerate") (hm : X.mg "enumerate" = none) (ha : PA X [e] ta) (hs : starEach [e] X.env = [(false, eval e X.env)] := by rfl) :
    PI X (.Tuple elts kk tpos) (.Call (.Name "enumerate" p) [e] [] pos) (iEnumA X.K ta) := by
  refine ⟨fun pins s σ H R I h => ?_⟩
  refine Call_ (ld_blt I hg hm boot_enumerate (PyProof.Rows.callWith_type1 (thn (ha.run pos pins s σ H _ I h) fun us s1 ⟨vs, H1, I1, r1, q1⟩ => ?_) hs rfl))
  obtain ⟨a, xs, ex, q1⟩ := q1
  subst ex
  cases r1 with
  | cons r rr =>
    cases rr
    cases r
    have fr : ∀ b, b ∈ [s1.heap.objs.size + 1, s1.heap.objs.size] → FpOk X pins H1 b := fun b hb => by
      have e' : b = s1.heap.objs.size + 1 ∨ b = s1.heap.objs.size := by simpa using hb
      have hle : s1.heap.objs.size ≤ b := by
        rcases e' with z | z
        · rw [z]; exact Nat.le_add_right _ _
        · rw [z]; exact Nat.le_refl _
      exact I1.fpOk hle (I1.hok.fresh hle)
    rcases q1 with ⟨hq, q⟩ | ⟨hq, q⟩
    · obtain ⟨its, rv, p', hz⟩ := I1.list hq
      refine call_enumerate_list p'.isList fun h' he hit hsz hk => wpAny_pyIter_enum he ?_
      have I2 : Inv X pins σ H1 { s1 with heap := h' } := I1.kept (t' := s1.toks) hk
      exact ⟨s1.heap.objs.size + 1, [s1.heap.objs.size + 1, s1.heap.objs.size], _, _, H1, rfl, I2, turn_enum a (s1.heap.objs.size + 1) s1.heap.objs.size, ⟨⟨.none, he⟩, hit, Nat.succ_ne_self _⟩, fr, q⟩
    · obtain ⟨its, rv, p', hz⟩ := I1.tuple hq
      obtain ⟨o1, ho1, _⟩ := id p'
      have hlt : a < s1.heap.objs.size := Heap.lt_size ho1
      refine call_enum_tuple (show s1.heap.IsTuple a its.toArray from p') fun h' he hit hsz hk => wpAny_pyIter_enum he ?_
      have I2 : Inv X pins σ H1 { s1 with heap := h' } := I1.kept (t' := s1.toks) hk
      exact ⟨s1.heap.objs.size + 1, [s1.heap.objs.size + 1, s1.heap.objs.size], _, _, H1, rfl, I2, turn_enumT a (s1.heap.objs.size + 1) s1.heap.objs.size, ⟨⟨.none, he⟩, hit, Nat.succ_ne_self _, Nat.ne_of_lt hlt, Nat.ne_of_gt (Nat.lt_succ_of_lt hlt)⟩, fr, q⟩
end RZ
namespace FS
open PySem PySem.Spec L2
theorem enum_enumT {K : PySem.W.Frag} {G : Wd} {a : Addr} {vs : List V} {xs : List PV} (r1 : RepL K G xs vs) (h1 : ∀ G1, Mon G G1 → SqT K G1.H a vs) : Enum K (RZ.IteT K a) G (enumL xs) :=
  ⟨fun i G1 M hl => ⟨vs, h1 G1 M, by
    unfold enumL at hl
    rw [List.length_map, List.length_zipIdx] at hl
    rw [← r1.length]
    exact hl⟩, fun i p G1 M su e => by
    unfold enumL at e
    rw [List.getElem?_map, List.getElem?_zipIdx] at e
    cases q : xs[i]? with
    | none => rw [q] at e; cases e
    | some c =>
      rw [q] at e
      simp only [Option.map_some, Nat.zero_add] at e
      cases e
      obtain ⟨v, f1, g1⟩ := r1.get q
      refine ⟨⟨vs, v, h1 G1 M, f1⟩, fun x H' y => ?_⟩
      obtain ⟨T, x1, rfl, hn, rfl, k1⟩ := y
      have := k1 vs (h1 G1 M)
      rw [f1] at this
      cases this
      obtain ⟨z1, z2, z3⟩ := pair_new su hn (.int _) (g1.mon M)
      exact ⟨_, rfl, z1, z2, z3⟩⟩
section
variable {X : Cx} {z : Zx} {pos p : Pos} {da : Cd (List PV)}
/-- enumerate of a list, of a tuple -/
def enumP (ps : List PV) : Option (List PV) := match ps with
  | [p] => (itemsF p).map enumL
  | _ => none
def dEnum (d : Cd (List PV)) : Cd (List PV) := bnd d fun ps => lift (enumP ps)
theorem mi_enum {a : Expr} {elts : List Expr} {kk : Nat} {tpos : Pos} (hm : X.mg "enumerate" = none) (ha : MA X z [a] da) (hK : z.K = X.K := by rfl) (hg : Gl X "enumerate" := by rfl) (hs : starEach [a] X.env = [(false, eval a X.env)] := by rfl) :
    MI X z (.Tuple elts kk tpos) (.Call (.Name "enumerate" p) [a] [] pos) (dEnum da) := by
  refine PI.imp (RZ.pi_enumA hg hm ha hs) fun σ H R ⟨G, env, S, e, A, P⟩ => ?_
  subst e
  refine toA lwI A P fun ps env1 S1 vs G1 m1 A1 r1 P1 => ?_
  unfold lift at P1
  cases e : enumP ps with
  | none => simp only [e] at P1; exact P1.elim
  | some qs =>
    simp only [e] at P1
    match ps, e with
    | [p], e =>
      obtain ⟨v, rfl, r2⟩ := repL1 r1
      unfold enumP at e
      cases e1 : itemsF p with
      | none => simp only [e1] at e; cases e
      | some xs =>
        simp only [e1] at e
        cases e
        rw [← hK]
        cases hp : isT p with
        | false =>
          obtain ⟨a1, us, rfl, s1, k1⟩ := itemsF_L e1 hp r2
          exact ⟨a1, us, rfl, .inl ⟨k1 G1 (Mon.refl _), P1 _ G1 (Mon.refl _) A1 (enum_enum s1 k1)⟩⟩
        | true =>
          obtain ⟨a1, us, rfl, s1, k1⟩ := itemsF_T e1 hp r2
          exact ⟨a1, us, rfl, .inr ⟨k1 G1 (Mon.refl _), P1 _ G1 (Mon.refl _) A1 (enum_enumT s1 k1)⟩⟩
end
end FS
set_option Elab.async false
set_option linter.all false
set_option maxRecDepth 100000
/-! FsOwn: lists that a name alone holds are read; more new lists; more assignments. -/
namespace HT
open PySem PySem.Spec PyProof.Rows
end HT
namespace L2
open PySem PySem.Spec PyProof.Rows
section
variable {X : Cx}
def rInDT (K : PySem.W.Frag) (neg : Bool) : R2 := fun x y H Q => ∃ d ds, Dp K H x d ∧ Dp K H y (.tuple ds) ∧ SeqAt.shaped d = true ∧ SeqAt.shaped (.tuple ds) = true ∧ Q (.bl (if neg then !ds.any (fun z => PyData.eqv z d) else ds.any fun z => PyData.eqv z d)) H
theorem op_inDT (hu : X.A.units + 65 < cLine) : OpR X (compareOp .In) (rInDT X.K false) := by
  intro pins s σ H x y v u Q I rx ry h
  obtain ⟨d, ds, hd, he, sd, se, q⟩ := h
  obtain ⟨as, r1⟩ := Dp.reads I d x v hd rx
  obtain ⟨bs, r2⟩ := Dp.reads I (.tuple ds) y u he ry
  exact SeqAt.in_tuple_reads r2 r1 (SeqAt.canLay_of_shaped se) (SeqAt.canLay_of_shaped sd) (room_in_shaped sd hu) ⟨.bl _, H, I, rfl, q⟩
theorem op_notInDT (hu : X.A.units + 65 < cLine) : OpR X (compareOp .NotIn) (rInDT X.K true) := by
  intro pins s σ H x y v u Q I rx ry h
  obtain ⟨d, ds, hd, he, sd, se, q⟩ := h
  obtain ⟨as, r1⟩ := Dp.reads I d x v hd rx
  obtain ⟨bs, r2⟩ := Dp.reads I (.tuple ds) y u he ry
  exact SeqAt.notIn_tuple_reads r2 r1 (SeqAt.canLay_of_shaped se) (SeqAt.canLay_of_shaped sd) (room_in_shaped sd hu) ⟨.bl _, H, I, rfl, q⟩
end
end L2
namespace FS
open PySem PySem.Spec L2
section
variable {X : Cx} {z : Zx} {pos p p1 p2 p3 : Pos} {a b e : Expr} {da db : Cd PV}
theorem pe_either {t t' : TE} (h : PE X e t) (h' : PE X e t') : PE X e (fun σ H Q => t σ H Q ∨ t' σ H Q) :=
  ⟨fun pins s σ H Q I q => q.elim (h.run pins s σ H Q I) (h'.run pins s σ H Q I)⟩
/-! ### a list that a name alone holds is read -/
/-- len(x) -/
def dLenO (i : Nat) : Cd PV := fun e s => match e[i]? with
  | some (.own xs) => .ok (.int xs.length) e s
  | _ => dFn fLen (dCons (dUse i) dNil) e s
theorem me_lenO (i : Nat) {x : Str} (hm : X.mg "len" = none) (hK : z.K = X.K := by rfl) (hN : X.N[i]? = some x := by rfl) (hv : Vis X.env.scope x := by first | exact Or.inl rfl | exact Or.inr (Or.inl rfl) | exact Or.inr (Or.inr rfl)) (hd : (x == ("__debug__" : Str)) = false := by decide)
    (hcd : (x == ("__classdict__" : Str)) = false := by decide) (hg : Gl X "len" := by rfl)
    (he : starEach [.Name x p1] X.env = (false, eval (.Name x p1) X.env) :: starEach [] X.env := by rfl) (hpl : (backTo pos (starEach [] X.env)).any (·.1) = false := by rfl) :
    ME X z (.Call (.Name "len" p) [.Name x p1] [] pos) (dLenO i) := by
  have h1 : PE X (.Call (.Name "len" p) [.Name x p1] [] pos) _ := pe_callB call_len_seq hg hm (by decide +kernel) (pa_cons (pe_var hN hv hd hcd) pa_nil he) (by decide) (by decide) he hpl
  have h2 : ME X z (.Call (.Name "len" p) [.Name x p1] [] pos) (dFn fLen (dCons (dUse i) dNil)) := me_blt (c_len hK) hm (ma_cons (me_use i hN hv hd hcd) ma_nil he) (by decide +kernel) hg (by decide) (by decide) he hpl
  refine (pe_either h1 h2).imp fun σ H Q ⟨G, env, S, e, A, P⟩ => ?_
  subst e
  unfold dLenO at P
  cases q : env[i]? with
  | none => rw [q] at P; exact .inr ⟨G, env, S, rfl, A, P⟩
  | some s =>
    rw [q] at P
    cases s with
    | none => exact .inr ⟨G, env, S, rfl, A, P⟩
    | exc a d w => exact .inr ⟨G, env, S, rfl, A, P⟩
    | val p => exact .inr ⟨G, env, S, rfl, A, P⟩
    | own xs =>
      obtain ⟨a, vs, e1, e2, r, _⟩ := A.en.own i xs q
      exact .inl ⟨_, e1, a, vs, rfl, .inl (SqL.of e2), by rw [← r.length]; exact P _ G (Mon.refl _) A (.int _)⟩
/-- x[k] -/
def dIxO (i : Nat) (db : Cd PV) : Cd PV := fun e s => match e[i]? with
  | some (.own _) => bnd db (fun k => fun e s => match e[i]?, k with
    | some (.own xs), .int j => match atI xs j with
      | some w => .ok w e s
      | none => .bad
    | _, _ => .bad) e s
  | _ => dOp pIx (dUse i) db e s
theorem me_ixO (i : Nat) {x : Str} (hb : ME X z b db) (hK : z.K = X.K := by rfl) (hN : X.N[i]? = some x := by rfl) (hv : Vis X.env.scope x := by first | exact Or.inl rfl | exact Or.inr (Or.inl rfl) | exact Or.inr (Or.inr rfl)) (hd : (x == ("__debug__" : Str)) = false := by decide)
    (hcd : (x == ("__classdict__" : Str)) = false := by decide) (hs : PlainIx b := by exact fun _ _ => rfl) : ME X z (.Subscript (.Name x p) b pos) (dIxO i db) := by
  have h1 : PE X (.Subscript (.Name x p) b pos) _ := pe_ix ix_seq (pe_var (pos := p) hN hv hd hcd) hb hs
  have h2 : ME X z (.Subscript (.Name x p) b pos) (dOp pIx (dUse i) db) := me_ix (me_use i hN hv hd hcd) hb hK hs
  refine (pe_either h1 h2).imp fun σ H Q ⟨G, env, S, e, A, P⟩ => ?_
  subst e
  unfold dIxO at P
  cases q : env[i]? with
  | none => rw [q] at P; exact .inr ⟨G, env, S, rfl, A, P⟩
  | some s =>
    rw [q] at P
    cases s with
    | none => exact .inr ⟨G, env, S, rfl, A, P⟩
    | exc a d w => exact .inr ⟨G, env, S, rfl, A, P⟩
    | val p => exact .inr ⟨G, env, S, rfl, A, P⟩
    | own xs =>
      obtain ⟨a, vs, e1, e2, r, _⟩ := A.en.own i xs q
      refine .inl ⟨_, e1, ?_⟩
      refine toE lwE A P fun k env1 S1 v G1 m1 A1 r1 P1 => ?_
      cases q1 : env1[i]? with
      | none => simp only [q1] at P1; exact P1.elim
      | some sl =>
        cases sl with
        | none => simp only [q1] at P1; exact P1.elim
        | val p => simp only [q1] at P1; exact P1.elim
        | exc a d w => simp only [q1] at P1; exact P1.elim
        | own ys =>
          cases k with
          | int j =>
            simp only [q1] at P1
            cases e : atI ys j with
            | none => simp only [e] at P1; exact P1.elim
            | some w =>
              simp only [e] at P1
              cases r1
              obtain ⟨b, us, f1, f2, f3, _⟩ := A1.en.own i ys q1
              rw [e1] at f1
              cases f1
              obtain ⟨u, g1, g2⟩ := atI_rep f3 e
              exact .inl ⟨a, us, j, u, rfl, rfl, SqL.of f2, g1, P1 u G1 (Mon.refl _) A1 g2⟩
          | _ => simp only [q1] at P1; exact P1.elim
/-! ### in, of tuples too -/
def pInT : Stt → PV → PV → Option PV := fun _ p q => match q with
  | .tup xs => if (okd 60 p && okd 60 (.tup xs)) = true then some (.bl (xs.any fun y => eqv y p)) else none
  | _ => none
def pNotInT : Stt → PV → PV → Option PV := fun _ p q => match q with
  | .tup xs => if (okd 60 p && okd 60 (.tup xs)) = true then some (.bl (!xs.any fun y => eqv y p)) else none
  | _ => none
theorem op_pInT {j : Nat} (hr : Room j X.A) (hK : z.K = X.K := by rfl) : OpD X z (compareOp .In) pInT := by
  refine ⟨_, op_inDT (by have := hr.un; omega), fun G S p q w x y Q e s su rp rq h => ?_⟩
  cases q with
  | tup xs =>
    simp only [pInT] at e
    split at e
    · rename_i hc
      rw [Bool.and_eq_true] at hc
      cases e
      rw [hK] at s rp rq
      exact ⟨_, _, rep_dp 60 _ _ hc.1 rp, rep_dp 60 _ _ hc.2 rq, okd_shaped hc.1, okd_shaped hc.2, by rw [any_toDs]; exact h _ G (.refl G) su (.bl _)⟩
    · cases e
  | _ => cases e
theorem op_pNotInT {j : Nat} (hr : Room j X.A) (hK : z.K = X.K := by rfl) : OpD X z (compareOp .NotIn) pNotInT := by
  refine ⟨_, op_notInDT (by have := hr.un; omega), fun G S p q w x y Q e s su rp rq h => ?_⟩
  cases q with
  | tup xs =>
    simp only [pNotInT] at e
    split at e
    · rename_i hc
      rw [Bool.and_eq_true] at hc
      cases e
      rw [hK] at s rp rq
      exact ⟨_, _, rep_dp 60 _ _ hc.1 rp, rep_dp 60 _ _ hc.2 rq, okd_shaped hc.1, okd_shaped hc.2, by rw [any_toDs]; exact h _ G (.refl G) su (.bl _)⟩
    · cases e
  | _ => cases e
def pInA (S : Stt) (p q : PV) : Option PV := (pIn S p q).or (pInT S p q)
def pNotInA (S : Stt) (p q : PV) : Option PV := (pNotIn S p q).or (pNotInT S p q)
theorem op_pInA {j : Nat} (hr : Room j X.A) (hK : z.K = X.K := by rfl) : OpD X z (compareOp .In) pInA := (op_pIn hr hK).or (op_pInT hr hK)
theorem op_pNotInA {j : Nat} (hr : Room j X.A) (hK : z.K = X.K := by rfl) : OpD X z (compareOp .NotIn) pNotInA := (op_pNotIn hr hK).or (op_pNotInT hr hK)
/-- e in x, x a list that its name alone holds -/
def inL (neg : Bool) (p : PV) (xs : List PV) : Option PV := if (okd 60 p && okd 60 (.lst xs)) = true then some (.bl (if neg then !xs.any (fun y => eqv y p) else xs.any fun y => eqv y p)) else none
def dInO (neg : Bool) (da : Cd PV) (i : Nat) : Cd PV := bnd da fun p => fun e s => match e[i]? with
  | some (.own xs) => match inL neg p xs with
    | some w => .ok w e s
    | none => .bad
  | some (.val q) => match (if neg then pNotInA s p q else pInA s p q) with
    | some w => .ok w e s
    | none => .bad
  | _ => .bad
def opIn (neg : Bool) : CmpOp := if neg then .NotIn else .In
theorem in_own {j : Nat} (neg : Bool) (hr : Room j X.A) (hK : z.K = X.K := by rfl) : ∃ r : R2, OpR X (compareOp (opIn neg)) r ∧
    (∀ (G : Wd) (S : Stt) (p q w : PV) (x y : V) (Q : VK), (if neg then pNotInA S p q else pInA S p q) = some w → RepS z.K G S → Sure G → Rep z.K G p x → Rep z.K G q y → (∀ v G', Ext G G' → Sure G' → Rep z.K G' w v → Q v G'.H) → r x y G.H Q) ∧
    ∀ (G : Wd) (p w : PV) (xs : List PV) (x : V) (a : Addr) (vs : List V) (Q : VK), inL neg p xs = some w → Rep z.K G p x → G.H a = some (.lst vs) → RepL z.K G xs vs → (∀ v, Rep z.K G w v → Q v G.H) → r x (.ref a) G.H Q := by
  have hu : X.A.units + 65 < cLine := by have := hr.un; omega
  have own : ∀ (G : Wd) (p w : PV) (xs : List PV) (x : V) (a : Addr) (vs : List V), inL neg p xs = some w → Rep z.K G p x → G.H a = some (.lst vs) → RepL z.K G xs vs →
      Dp X.K G.H x p.toD ∧ Dp X.K G.H (.ref a) (.list (toDs xs)) ∧ SeqAt.shaped p.toD = true ∧ SeqAt.shaped (.list (toDs xs)) = true ∧ w = .bl (if neg then !(toDs xs).any (fun y => PyData.eqv y p.toD) else (toDs xs).any fun y => PyData.eqv y p.toD) := by
    intro G p w xs x a vs h rp ha r
    unfold inL at h
    split at h
    · rename_i hc
      rw [Bool.and_eq_true] at hc
      cases h
      rw [hK] at rp r
      exact ⟨rep_dp 60 _ _ hc.1 rp, .lst (SqL.of ha) (reps_dp (rep_dp 59) xs vs hc.2 r), okd_shaped hc.1, okd_shaped (p := .lst xs) hc.2, by rw [any_toDs]⟩
    · cases h
  cases neg with
  | false =>
    obtain ⟨r', o', k'⟩ := op_pInA (X := X) (z := z) hr hK
    refine ⟨_, (op_inD hu).or o', fun G S p q w x y Q h s su rp rq k => .inr (k' G S p q w x y Q h s su rp rq k), fun G p w xs x a vs Q h rp ha r k => ?_⟩
    obtain ⟨d1, d2, d3, d4, rfl⟩ := own G p w xs x a vs h rp ha r
    exact .inl ⟨_, _, d1, d2, d3, d4, k _ (.bl _)⟩
  | true =>
    obtain ⟨r', o', k'⟩ := op_pNotInA (X := X) (z := z) hr hK
    refine ⟨_, (op_notInD hu).or o', fun G S p q w x y Q h s su rp rq k => .inr (k' G S p q w x y Q h s su rp rq k), fun G p w xs x a vs Q h rp ha r k => ?_⟩
    obtain ⟨d1, d2, d3, d4, rfl⟩ := own G p w xs x a vs h rp ha r
    exact .inl ⟨_, _, d1, d2, d3, d4, k _ (.bl _)⟩
theorem in_rd {r : R2} {neg : Bool} {i : Nat} {σ : St} {H : Hp} {Q : VK}
    (k1 : ∀ (G : Wd) (S : Stt) (p q w : PV) (x y : V) (Q : VK), (if neg then pNotInA S p q else pInA S p q) = some w → RepS z.K G S → Sure G → Rep z.K G p x → Rep z.K G q y → (∀ v G', Ext G G' → Sure G' → Rep z.K G' w v → Q v G'.H) → r x y G.H Q)
    (k2 : ∀ (G : Wd) (p w : PV) (xs : List PV) (x : V) (a : Addr) (vs : List V) (Q : VK), inL neg p xs = some w → Rep z.K G p x → G.H a = some (.lst vs) → RepL z.K G xs vs → (∀ v, Rep z.K G w v → Q v G.H) → r x (.ref a) G.H Q)
    (h : RE z (dInO neg da i) σ H Q) : tOp r (RE z da) (tVar i) σ H Q := by
  obtain ⟨G, env, S, e, A, P⟩ := h
  subst e
  refine toE lwE A P fun p env1 S1 x G1 m1 A1 r1 P1 => ?_
  cases q : env1[i]? with
  | none => simp only [q] at P1; exact P1.elim
  | some sl =>
    simp only [q] at P1
    cases sl with
    | none => exact P1.elim
    | exc a d w => exact P1.elim
    | val t =>
      obtain ⟨v, e1, r2⟩ := A1.en.val i t q
      simp only at P1
      refine ⟨v, e1, ?_⟩
      cases e : (if neg then pNotInA S1 p t else pInA S1 p t) with
      | none => rw [e] at P1; exact P1.elim
      | some w =>
        rw [e] at P1
        exact k1 G1 S1 p t w x v Q e A1.st A1.sure r1 r2 fun v G' xx su rv => P1 v G' (xx.mon A1.sure) (A1.ext xx su) rv
    | own xs =>
      obtain ⟨a, vs, e1, e2, r2, _⟩ := A1.en.own i xs q
      simp only at P1
      refine ⟨_, e1, ?_⟩
      cases e : inL neg p xs with
      | none => rw [e] at P1; exact P1.elim
      | some w =>
        rw [e] at P1
        exact k2 G1 p w xs x a vs Q e r1 e2 r2 fun v rv => P1 v G1 (Mon.refl _) A1 rv
theorem mt_inO {j : Nat} {neg : Bool} (i : Nat) {x : Str} (hr : Room j X.A) (ha : ME X z a da) (hm : behindInMarks (opIn neg) (.Name x p1) = false := by rfl) (hK : z.K = X.K := by rfl) (hN : X.N[i]? = some x := by rfl) (hv : Vis X.env.scope x := by first | exact Or.inl rfl | exact Or.inr (Or.inl rfl) | exact Or.inr (Or.inr rfl)) (hd : (x == ("__debug__" : Str)) = false := by decide)
    (hcd : (x == ("__classdict__" : Str)) = false := by decide) : MT X z (.Compare a [opIn neg] [.Name x p1] pos) (dB (dInO neg da i)) := by
  obtain ⟨r, o, k1, k2⟩ := in_own (X := X) (z := z) neg hr hK
  exact (pt_cmpR o ha (pe_var hN hv hd hcd) hm).imp fun σ H Q h => in_rd k1 k2 (rt_b h)
/-! ### more new lists -/
/-- a list times a whole number -/
def dMulL (da db : Cd PV) : Cd (List PV) := bnd da fun p => bnd db fun q => match p, q with
  | .lst xs, .int k => if k < 1048576 ∧ -1048576 < k ∧ xs.length * k.toNat ≤ sizeLine then ret (List.replicate k.toNat xs).flatten else fun _ _ => .bad
  | _, _ => fun _ _ => .bad
theorem mf_mulL (ha : ME X z a da) (hb : ME X z b db) : MF X z (.BinOp a .Mult b pos) (dMulL da db) := by
  refine (pe_op op_rep ha hb).imp fun σ H Q ⟨G, env, S, e, A, P⟩ => ?_
  subst e
  refine toE lwF A P fun p env1 S1 x G1 m1 A1 r1 P1 => toE lwF A1 P1 fun q env2 S2 y G2 m2 A2 r2 P2 => ?_
  cases p with
  | lst xs =>
    cases q with
    | int k =>
      simp only at P2
      split at P2
      · rename_i hc
        cases r2
        obtain ⟨a, vs, rfl, q, rr⟩ := (r1.mon m2).sqL
        have e2 : (2 : Int) ^ 63 = 9223372036854775808 := by decide
        refine ⟨a, k, vs, rfl, rfl, q, by rw [e2]; omega, by rw [e2]; omega, by rw [← rr.length]; exact hc.2.2, fun p hn => ?_⟩
        have M : Mon G2 (G2.fresh p (.lst (List.replicate k.toNat vs).flatten)) := (Ext.fresh hn).mon A2.sure
        have q := A2.alone (vs := (List.replicate k.toNat vs).flatten) hn
        exact P2 p _ _ M (A2.fresh hn) ((rr.rep k.toNat).mon M) q.at_ q.nf q.nm q.n0 q.no
      · exact P2.elim
    | _ => exact P2.elim
  | _ => exact P2.elim
/-- a list and a list -/
def dCatL (da db : Cd PV) : Cd (List PV) := bnd da fun p => bnd db fun q => match p, q with
  | .lst xs, .lst ys => if xs.length + ys.length ≤ sizeLine then ret (xs ++ ys) else fun _ _ => .bad
  | _, _ => fun _ _ => .bad
/-- a list's part -/
def dCutL (d : Cd PV) (lo hi : Cd (Option Int)) : Cd (List PV) := bnd d fun p => bnd lo fun l => bnd hi fun h => match p with
  | .lst xs => ret (cutP xs l h)
  | _ => fun _ _ => .bad
theorem mf_cutL {lo hi : Option Expr} {dl dh : Cd (Option Int)} (h : ME X z a da) (hl : MO X z lo dl) (hh : MO X z hi dh) (hK : z.K = X.K := by rfl) : MF X z (.Subscript a (.Slice lo hi none p2) pos) (dCutL da dl dh) := by
  refine (pe_slice sl_list h hl hh).imp fun σ H Q ⟨G, env, S, e, A, P⟩ => ?_
  subst e
  refine toE lwF A P fun p env1 S1 v G1 m1 A1 r1 P1 => toO lwF A1 P1 fun l env2 S2 G2 m2 A2 P2 => toO lwF A2 P2 fun u env3 S3 G3 m3 A3 P3 => ?_
  cases p with
  | lst xs =>
    obtain ⟨a, vs, rfl, q, rr⟩ := (r1.mon (m2.trans m3)).sqL
    refine ⟨a, vs, rfl, SqL.of q, fun p hn => ?_⟩
    have M : Mon G3 (G3.fresh p (.lst (cutV vs l u))) := (Ext.fresh hn).mon A3.sure
    have q := A3.alone (vs := cutV vs l u) hn
    exact P3 p _ _ M (A3.fresh hn) ((rr.cut l u).mon M) q.at_ q.nf q.nm q.n0 q.no
  | _ => exact P3.elim
/-- list(range(n)) -/
def dRngL (d : Cd (List PV)) : Cd (List PV) := bnd d fun ps => match ps with
  | [.int j] => if okR j = true ∧ j ≤ 16777216 then ret ((List.range j.toNat).map fun (i : Nat) => PV.int i) else fun _ _ => .bad
  | [.int i, .int j] => if okR i = true ∧ okR j = true ∧ j - i ≤ 16777216 then ret ((List.range (j - i).toNat).map fun (k : Nat) => PV.int (i + k)) else fun _ _ => .bad
  | _ => fun _ _ => .bad
theorem rgV_rep {K : PySem.W.Frag} {G : Wd} (i j : Int) : RepL K G ((List.range (j - i).toNat).map fun (k : Nat) => PV.int (i + k)) (rgV i j) := by
  unfold rgV
  have : ∀ l : List Nat, RepL K G (l.map fun (k : Nat) => PV.int (i + k)) (l.map fun (k : Nat) => V.int (i + k)) := fun l => by
    induction l with
    | nil => exact .nil
    | cons k l ih => exact .cons (.int _) ih
  exact this _
theorem mf_listRg1 {d : Cd PV} (ha : ME X z a d) (hl : X.mg "list" = none) (hrg : X.mg "range" = none) (hc : X.calm = true := by rfl) (hg : Gl X "list" := by rfl) (hg2 : Gl X "range" := by rfl) (na : starEach [a] X.env = (false, eval a X.env) :: starEach [] X.env := by rfl)
    (na2 : starEach [.Call (.Name "range" p1) [a] [] p2] X.env = (false, eval (.Call (.Name "range" p1) [a] [] p2) X.env) :: starEach [] X.env := by rfl) : MF X z (.Call (.Name "list" p) [.Call (.Name "range" p1) [a] [] p2] [] pos) (dRngL (dCons d dNil)) := by
  refine PE.imp (pe_listRg hc hg hl (prg_1 hg2 hrg ha na) na2) fun σ H Q ⟨G, env, S, e, A, P⟩ => ?_
  subst e
  have hA := A
  obtain ⟨G', hh⟩ : ∃ G', G' = G := ⟨G, rfl⟩
  unfold dRngL dCons at P
  have P' : PostF z G σ Q (bnd d (fun v => match v with
    | .int j => if okR j = true ∧ j ≤ 16777216 then ret ((List.range j.toNat).map fun (i : Nat) => PV.int i) else fun _ _ => .bad
    | _ => fun _ _ => .bad) env S) := by
    unfold bnd at P ⊢
    cases q : d env S with
    | bad => rw [q] at P; exact P
    | raise c w e1 s1 => rw [q] at P; exact P
    | ok v e1 s1 =>
      rw [q] at P
      cases v <;> exact P
  refine toE lwF A P' fun v env1 S1 x G1 m1 A1 r1 P1 => ?_
  cases v with
  | int j =>
    simp only at P1
    split at P1
    · rename_i hc
      cases r1
      obtain ⟨h1, h2⟩ := okR_b hc.1
      refine ⟨j, rfl, ⟨by decide, by decide, h1, h2, by omega⟩, fun l hn => ?_⟩
      have M : Mon G1 (G1.fresh l (.lst (rgV 0 j))) := (Ext.fresh hn).mon A1.sure
      have q := A1.alone (vs := rgV 0 j) hn
      have rr := rgV_rep (K := z.K) (G := G1.fresh l (.lst (rgV 0 j))) 0 j
      have e1 : ((List.range (j - 0).toNat).map fun (k : Nat) => PV.int (0 + k)) = (List.range j.toNat).map fun (i : Nat) => PV.int i := by simp
      rw [e1] at rr
      exact P1 l _ _ M (A1.fresh hn) rr q.at_ q.nf q.nm q.n0 q.no
    · exact P1.elim
  | _ => exact P1.elim
/-! ### xs[::-1] -/
def pRev : PV → Option PV
  | .tup xs => some (.tup xs.reverse)
  | .lst xs => some (.lst xs.reverse)
  | _ => none
/-! ### more assignments -/
/-- a, b = (a new list), [] -/
def dOwnNil (i j : Nat) (d : Cd (List PV)) : Cd Flw := bnd d fun xs => fun e s => .ok .next ((e.set i (.own xs)).set j (.own [])) s
/-- a, b = e, [] -/
def dSetNil (i j : Nat) (d : Cd PV) : Cd Flw := bnd d fun p => fun e s => .ok .next ((e.set i (.val p)).set j (.own [])) s
variable {k2 : Nat} {lpos px py pt pt2 : Pos} {kt : Nat}
theorem ms_ownNil (i j : Nat) {x y : Str} {d : Cd (List PV)} (hN : X.N.Nodup) (ha : MF X z a d) (hij : i ≠ j := by decide) (hc : X.calm = true := by rfl) (hi : X.N[i]? = some x := by rfl) (hj : X.N[j]? = some y := by rfl)
    (hx : X.env.scope.names.lookup x = some .local := by rfl) (hy : X.env.scope.names.lookup y = some .local := by rfl)
    (hs0 : starEach [a, .List [] lpos] X.env = (false, eval a X.env) :: starEach [.List [] lpos] X.env := by rfl) (hs1 : starEach [.List [] lpos] X.env = (false, eval (.List [] lpos) X.env) :: starEach [] X.env := by rfl)
    (hw : swappedStores [.Tuple [.Name x px, .Name y py] kt pt] (.Tuple [a, .List [] lpos] k2 pt2) X.env = pure (some [x, y]) := by rfl)
    (hs : swapsWithSole [.Tuple [.Name x px, .Name y py] kt pt] (.Tuple [a, .List [] lpos] k2 pt2) pos.line X.env = pure false := by rfl) :
    MS X z (.Assign [.Tuple [.Name x px, .Name y py] kt pt] (.Tuple [a, .List [] lpos] k2 pt2) pos) (dOwnNil i j d) := by
  refine PS.imp (ps_par hc hN hi hj hij hx hy (pa_cons ha (pa_cons (pe_lst pa_nil) pa_nil hs1) hs0) hw hs) fun D σ H ⟨G, env, S, e, A, P⟩ => ?_
  subst e
  refine toF lwS A P fun xs env1 S1 a vs G1 m1 A1 r1 al P1 => ?_
  refine ⟨Nat.zero_le _, fun l hn => ⟨_, _, rfl, ?_⟩⟩
  have A2 := A1.setOwn (i := i) r1 al
  have M : Mon G1 (G1.fresh l (.lst [])) := (Ext.fresh hn).mon A2.sure
  have al2 := A2.alone (vs := []) hn
  exact P1 _ _ M ((A2.fresh hn).setOwn (i := j) .nil al2)
theorem ms_setNil (i j : Nat) {x y : Str} (hN : X.N.Nodup) (ha : ME X z a da) (hij : i ≠ j := by decide) (hc : X.calm = true := by rfl) (hi : X.N[i]? = some x := by rfl) (hj : X.N[j]? = some y := by rfl)
    (hx : X.env.scope.names.lookup x = some .local := by rfl) (hy : X.env.scope.names.lookup y = some .local := by rfl)
    (hs0 : starEach [a, .List [] lpos] X.env = (false, eval a X.env) :: starEach [.List [] lpos] X.env := by rfl) (hs1 : starEach [.List [] lpos] X.env = (false, eval (.List [] lpos) X.env) :: starEach [] X.env := by rfl)
    (hw : swappedStores [.Tuple [.Name x px, .Name y py] kt pt] (.Tuple [a, .List [] lpos] k2 pt2) X.env = pure (some [x, y]) := by rfl)
    (hs : swapsWithSole [.Tuple [.Name x px, .Name y py] kt pt] (.Tuple [a, .List [] lpos] k2 pt2) pos.line X.env = pure false := by rfl) :
    MS X z (.Assign [.Tuple [.Name x px, .Name y py] kt pt] (.Tuple [a, .List [] lpos] k2 pt2) pos) (dSetNil i j da) := by
  refine PS.imp (ps_par hc hN hi hj hij hx hy (pa_cons ha (pa_cons (pe_lst pa_nil) pa_nil hs1) hs0) hw hs) fun D σ H ⟨G, env, S, e, A, P⟩ => ?_
  subst e
  refine toE lwS A P fun p env1 S1 v G1 m1 A1 r1 P1 => ?_
  refine ⟨Nat.zero_le _, fun l hn => ⟨_, _, rfl, ?_⟩⟩
  have A2 := A1.setVal (i := i) r1
  have M : Mon G1 (G1.fresh l (.lst [])) := (Ext.fresh hn).mon A2.sure
  have al2 := A2.alone (vs := []) hn
  exact P1 _ _ M ((A2.fresh hn).setOwn (i := j) .nil al2)
end
end FS
set_option Elab.async false
set_option linter.all false
set_option maxRecDepth 100000
/-! FsZip: zip of a tuple and a list, in any order. -/
namespace RZ
open PySem PySem.Spec PyProof.Rows L2
/-- k: a tuple, else a list -/
def kIter (k : Bool) (h : Heap) (it a : Addr) (i : Nat) : Prop := if k = true then h.IsTupleIter it a i else h.IsListIter it a i
theorem kIter.at {k : Bool} {h h' : Heap} {it a : Addr} {i : Nat} (x : kIter k h it a i) (e : ∀ o, h.get? it = some o → h'.get? it = some o) : kIter k h' it a i := by
  cases k with
  | true => exact Heap.IsTupleIter.at x e
  | false => exact Heap.IsListIter.at x e
theorem kIter.ob {k : Bool} {h : Heap} {it a : Addr} {i : Nat} (x : kIter k h it a i) : ∃ o, h.get? it = some o ∧ ∀ v, o.data ≠ .cell v := by
  cases k with
  | true =>
    obtain ⟨o, e, _, d⟩ := x
    exact ⟨o, e, fun v q => by rw [d] at q; cases q⟩
  | false =>
    obtain ⟨o, e, _, d⟩ := x
    exact ⟨o, e, fun v q => by rw [d] at q; cases q⟩
end RZ
namespace FS
open PySem PySem.Spec L2
section
variable {X : Cx} {z : Zx} {pos p : Pos} {da : Cd (List PV)}
/-- zip of two sequences -/
def zipM (ps : List PV) : Option (List PV) := match ps with
  | [p, q] => match itemsF p, itemsF q with
    | some xs, some ys => some ((xs.zip ys).map fun c => PV.tuz [c.1, c.2])
    | _, _ => none
  | _ => none
def dZipM (d : Cd (List PV)) : Cd (List PV) := bnd d fun ps => lift (zipM ps)
end
end FS
set_option Elab.async false
set_option linter.all false
set_option maxRecDepth 100000
/-! FsTry: try with several clauses, each with or without a name. -/
namespace L2
open PySem PySem.Spec PyProof.Rows
/-- an error in flight stands in the handler's hands: what the clauses look at -/
structure Caught (X : Cx) (B : Heap) (pins : List (Addr × Obj)) (σ : St) (H : Hp) (sI : Shared) (a : Addr) (cls : Value) (d : Option Addr) (s : Shared) : Prop where
  J : Inv X pins σ H sI
  nb : ∀ b o, sI.heap.get? b = some o → b ∉ frs X.stack → B.get? b = some o
  fl : HandSPX.FlyingZ B (X.env :: X.outer) a (Zc cls d) s.heap
  up : sI.heap.UpToSlots s.heap
  os : s.os = sI.os
  ag : AllBare s.gens
  na : H a = none
  nL : a ≠ X.env.locals
  nF : a ∉ X.fs
section
variable {X : Cx} {pins : List (Addr × Obj)} {σ : St} {H : Hp} {sI s : Shared} {a : Addr} {cls : Value} {d : Option Addr} {B : Heap}
theorem Caught.inv (c : Caught X B pins σ H sI a cls d s) : Inv X pins σ H s := c.J.landed c.nb c.fl.1 c.up c.os c.ag
theorem Caught.suite (c : Caught X B pins σ H sI a cls d s) : ∃ oe, Zc cls d oe ∧ (∃ vs, oe.data = .fields vs) ∧ Inv (X.suite a ((a, oe) :: (X.pn ++ pins))) [] σ H s := by
  obtain ⟨oe, vs, he, hz, hd⟩ := c.fl.there
  exact ⟨oe, hz, ⟨vs, hd⟩, c.inv.suite he hd c.na c.nL c.nF⟩
/-- the class that a clause names is read -/
theorem Caught.names (c : Caught X B pins σ H sI a cls d s) {x : Str} {np : Pos} {cv : Value} (hc : Names X x cv) {Q : Value → Shared → Prop} {E : Value → Shared → Prop} (q : Q cv s) :
    wpAny (model X.prog X.w) (X.A.mark (some (.ref a))) (eval (.Name x np) X.env) Q E s := by
  obtain ⟨oe, _, _, S⟩ := c.suite
  obtain ⟨hg, hdbg, hm | ⟨hm, hv, hnn⟩⟩ := hc
  · exact ld_glob (X := X.suite a ((a, oe) :: (X.pn ++ pins))) S hg hm q hdbg
  · exact ld_blt (X := X.suite a ((a, oe) :: (X.pn ++ pins))) S hg hm hv q hnn hdbg
end
end L2
set_option Elab.async false
set_option linter.all false
set_option maxRecDepth 100000
/-! FsTry2: try as data; what a caught error tells. -/
namespace L2
open PySem PySem.Spec PyProof.Rows
end L2
namespace FS
open PySem PySem.Spec L2
section
variable {X : Cx} {z : Zx}
abbrev zs (z : Zx) : Zx := ⟨z.K, z.mg, z.G0, fun _ _ _ _ => False⟩
variable {G : Wd} {env : Env} {S : Stt} {σ : St}
variable {a b C : Addr} {oe : Obj} {pn : List (Addr × Obj)} {pos p1 p2 p3 : Pos}
end
end FS
set_option Elab.async false
set_option linter.all false
set_option maxRecDepth 100000
/-! FsLaw: a law's end. -/
namespace FS
open PySem PySem.Spec L2
end FS
set_option Elab.async false
set_option linter.all false
set_option maxRecDepth 100000
/-! FsWp: how a denotation is run, by what is wanted behind it. -/
namespace FS
open PySem L2
abbrev Pq (α : Type) := α → Env → Stt → Prop
abbrev Pr := Str → PV → Env → Stt → Prop
def Wp {α : Type} (o : Out α) (Q : Pq α) (R : Pr) : Prop := match o with
  | .ok a e s => Q a e s
  | .raise c w e s => R c w e s
  | .bad => False
def Fn (r : Res) (Q : PV → Stt → Prop) (R : Str → PV → Stt → Prop) : Prop := match r with
  | .ok p s => Q p s
  | .raise c w s => R c w s
  | .bad => False
abbrev noR : Str → PV → Stt → Prop := fun _ _ _ => False
/-- the ends of a body -/
def FQ (Q : PV → Stt → Prop) : Pq Flw
  | .next, _, s => Q .non s
  | .ret p, _, s => Q p s
  | .brk, _, _ => False
  | .cont, _, _ => False
/-- .. of a statement that others follow -/
def SQ (K : Env → Stt → Prop) (Q : Pq Flw) : Pq Flw
  | .next, e, s => K e s
  | .ret p, e, s => Q (.ret p) e s
  | .brk, e, s => Q .brk e s
  | .cont, e, s => Q .cont e s
/-- .. of a loop's body -/
def LQ (I : Env → Stt → Prop) (Q : Pq Flw) : Pq Flw
  | .next, e, s => I e s
  | .cont, e, s => I e s
  | .ret p, e, s => Q (.ret p) e s
  | .brk, e, s => Q .next e s
section
variable {α β : Type} {e : Env} {s : Stt} {R : Pr}
theorem Wp.mono {o : Out α} {Q Q' : Pq α} {R R' : Pr} (h : Wp o Q R) (hq : ∀ a e s, Q a e s → Q' a e s) (hr : ∀ c w e s, R c w e s → R' c w e s) : Wp o Q' R' := by
  cases o with
  | ok a e s => exact hq _ _ _ h
  | raise c w e s => exact hr _ _ _ _ h
  | bad => exact h
theorem Fn.mono {r : Res} {Q Q' : PV → Stt → Prop} {R R' : Str → PV → Stt → Prop} (h : Fn r Q R) (hq : ∀ a s, Q a s → Q' a s) (hr : ∀ c w s, R c w s → R' c w s) : Fn r Q' R' := by
  cases r with
  | ok a s => exact hq _ _ h
  | raise c w s => exact hr _ _ _ h
  | bad => exact h
theorem Fn.ok {r : Res} {Q : PV → Stt → Prop} (h : Fn r Q noR) : ∃ p s, r = .ok p s ∧ Q p s := by
  cases r with
  | ok a s => exact ⟨a, s, rfl, h⟩
  | raise c w s => exact h.elim
  | bad => exact h.elim
theorem Fn.of {r : Res} {Q : PV → Stt → Prop} {R : Str → PV → Stt → Prop} {p : PV} {s : Stt} (e : r = .ok p s) (h : Q p s) : Fn r Q R := by
  rw [e]
  exact h
theorem wp_ret {a : α} {Q : Pq α} (h : Q a e s) : Wp (ret a e s) Q R := h
theorem wp_bnd {d : Cd α} {k : α → Cd β} {Q : Pq β} (h : Wp (d e s) (fun a e s => Wp (k a e s) Q R) R) : Wp (bnd d k e s) Q R := by
  unfold bnd
  cases q : d e s with
  | ok a e1 s1 => rw [q] at h; exact h
  | raise c w e1 s1 => rw [q] at h; exact h
  | bad => rw [q] at h; exact h
theorem wp_lift {o : Option α} {a : α} {Q : Pq α} (h : o = some a) (hq : Q a e s) : Wp (lift o e s) Q R := by
  subst h
  exact hq
/-! expressions -/
variable {Q : Pq PV}
theorem wp_use {i : Nat} {p : PV} (h : e[i]? = some (.val p)) (hq : Q p e s) : Wp (dUse i e s) Q R := by
  unfold dUse
  rw [h]
  exact hq
theorem wp_useO {i : Nat} {xs : List PV} (h : e[i]? = some (.own xs)) (hq : Q (.lst xs) (e.set i (.val (.lst xs))) s) : Wp (dUse i e s) Q R := by
  unfold dUse
  rw [h]
  exact hq
theorem wp_op {f : Stt → PV → PV → Option PV} {a b : Cd PV} (h : Wp (a e s) (fun p e s => Wp (b e s) (fun q e s => ∃ w, f s p q = some w ∧ Q w e s) R) R) : Wp (dOp f a b e s) Q R := by
  refine wp_bnd (Wp.mono h (fun p e1 s1 h1 => wp_bnd (Wp.mono h1 (fun q e2 s2 ⟨w, e3, h2⟩ => ?_) fun _ _ _ _ h => h)) fun _ _ _ _ h => h)
  show Wp (match f s2 p q with | some w => Out.ok w e2 s2 | none => .bad) Q R
  rw [e3]
  exact h2
theorem wp_un {f : PV → Option PV} {a : Cd PV} (h : Wp (a e s) (fun p e s => ∃ w, f p = some w ∧ Q w e s) R) : Wp (dUn f a e s) Q R :=
  wp_bnd (Wp.mono h (fun p e1 s1 ⟨w, e3, h2⟩ => wp_lift e3 h2) fun _ _ _ _ h => h)
theorem wp_nil {Q : Pq (List PV)} (h : Q [] e s) : Wp (dNil e s) Q R := h
theorem wp_cons {a : Cd PV} {r : Cd (List PV)} {Q : Pq (List PV)} (h : Wp (a e s) (fun p e s => Wp (r e s) (fun ps e s => Q (p :: ps) e s) R) R) : Wp (dCons a r e s) Q R :=
  wp_bnd (Wp.mono h (fun p e1 s1 h1 => wp_bnd h1) fun _ _ _ _ h => h)
theorem wp_tup {d : Cd (List PV)} (h : Wp (d e s) (fun ps e s => ps.length ≤ sizeLine ∧ Q (.tup ps) e s) R) : Wp (dTup d e s) Q R :=
  wp_bnd (Wp.mono h (fun ps e1 s1 ⟨hl, h1⟩ => by rw [if_pos hl]; exact h1) fun _ _ _ _ h => h)
theorem wp_disp {d : Cd (List PV)} {Q : Pq (List PV)} (h : Wp (d e s) (fun ps e s => ps.length ≤ sizeLine ∧ Q ps e s) R) : Wp (dDisp d e s) Q R :=
  wp_bnd (Wp.mono h (fun ps e1 s1 ⟨hl, h1⟩ => by rw [if_pos hl]; exact h1) fun _ _ _ _ h => h)
theorem wp_frz {d : Cd (List PV)} (h : Wp (d e s) (fun ps e s => Q (.lst ps) e s) R) : Wp (dFrz d e s) Q R := wp_bnd h
theorem wp_new {d : Cd (List PV)} (h : Wp (d e s) (fun xs e s => Q (.ref s.length) e (s ++ [.lst xs])) R) : Wp (dNew d e s) Q R := wp_bnd h
theorem wp_b {d : Cd PV} {Q : Pq Bool} (h : Wp (d e s) (fun p e s => ∃ b, asB p = some b ∧ Q b e s) R) : Wp (dB d e s) Q R :=
  wp_bnd (Wp.mono h (fun p e1 s1 ⟨w, e3, h2⟩ => wp_lift e3 h2) fun _ _ _ _ h => h)
theorem wp_tru {d : Cd PV} {Q : Pq Bool} (h : Wp (d e s) (fun p e s => ∃ b, tru s p = some b ∧ Q b e s) R) : Wp (dTru d e s) Q R :=
  wp_bnd (Wp.mono h (fun p e1 s1 ⟨w, e3, h2⟩ => by
    show Wp (match tru s1 p with | some b => Out.ok b e1 s1 | none => .bad) Q R
    rw [e3]
    exact h2) fun _ _ _ _ h => h)
theorem wp_notT {d : Cd Bool} {Q : Pq Bool} (h : Wp (d e s) (fun b e s => Q (!b) e s) R) : Wp (dNotT d e s) Q R := wp_bnd h
theorem wp_andT {d r : Cd Bool} {Q : Pq Bool} (h : Wp (d e s) (fun b e s => (b = true → Wp (r e s) Q R) ∧ (b = false → Q false e s)) R) : Wp (dAndT d r e s) Q R :=
  wp_bnd (Wp.mono h (fun b e1 s1 h1 => by
    cases b with
    | true => exact h1.1 rfl
    | false => exact h1.2 rfl) fun _ _ _ _ h => h)
theorem wp_orT {d r : Cd Bool} {Q : Pq Bool} (h : Wp (d e s) (fun b e s => (b = true → Q true e s) ∧ (b = false → Wp (r e s) Q R)) R) : Wp (dOrT d r e s) Q R :=
  wp_bnd (Wp.mono h (fun b e1 s1 h1 => by
    cases b with
    | true => exact h1.1 rfl
    | false => exact h1.2 rfl) fun _ _ _ _ h => h)
theorem wp_andV {d r : Cd PV} (h : Wp (d e s) (fun p e s => ∃ b, asB p = some b ∧ (b = true → Wp (r e s) Q R) ∧ (b = false → Q (.bl false) e s)) R) : Wp (dAndV d r e s) Q R :=
  wp_bnd (wp_b (Wp.mono h (fun p e1 s1 ⟨b, hb, h1⟩ => ⟨b, hb, by
    cases b with
    | true => exact h1.1 rfl
    | false => exact h1.2 rfl⟩) fun _ _ _ _ h => h))
theorem wp_orV {d r : Cd PV} (h : Wp (d e s) (fun p e s => ∃ b, asB p = some b ∧ (b = true → Q (.bl true) e s) ∧ (b = false → Wp (r e s) Q R)) R) : Wp (dOrV d r e s) Q R :=
  wp_bnd (wp_b (Wp.mono h (fun p e1 s1 ⟨b, hb, h1⟩ => ⟨b, hb, by
    cases b with
    | true => exact h1.1 rfl
    | false => exact h1.2 rfl⟩) fun _ _ _ _ h => h))
theorem wp_notV {d : Cd PV} (h : Wp (d e s) (fun p e s => ∃ b, asB p = some b ∧ Q (.bl (!b)) e s) R) : Wp (dNotV d e s) Q R := wp_bnd (wp_b h)
theorem wp_ife {t : Cd Bool} {a b : Cd PV} (h : Wp (t e s) (fun k e s => (k = true → Wp (a e s) Q R) ∧ (k = false → Wp (b e s) Q R)) R) : Wp (dIfE t a b e s) Q R :=
  wp_bnd (Wp.mono h (fun b e1 s1 h1 => by
    cases b with
    | true => exact h1.1 rfl
    | false => exact h1.2 rfl) fun _ _ _ _ h => h)
theorem wp_chain {f f' : Stt → PV → PV → Option PV} {a b c : Cd PV} (h : Wp (a e s) (fun p e s => Wp (b e s) (fun q e s => ∃ k, f s p q = some (.bl k) ∧ (k = true → Wp (c e s) (fun r e s => ∃ w, f' s q r = some w ∧ Q w e s) R) ∧ (k = false → Q (.bl false) e s)) R) R) : Wp (dChain f f' a b c e s) Q R := by
  refine wp_bnd (Wp.mono h (fun p e1 s1 h1 => wp_bnd (Wp.mono h1 (fun q e2 s2 ⟨k, e3, h2, h3⟩ => ?_) fun _ _ _ _ h => h)) fun _ _ _ _ h => h)
  show Wp (match f s2 p q with
    | some (.bl true) => bnd c (fun r => fun e' s' => match f' s' q r with | some w => .ok w e' s' | none => .bad) e2 s2
    | some (.bl false) => .ok (.bl false) e2 s2
    | _ => .bad) Q R
  rw [e3]
  cases k with
  | false => exact h3 rfl
  | true =>
    refine wp_bnd (Wp.mono (h2 rfl) (fun r e4 s4 ⟨w, e5, h5⟩ => ?_) fun _ _ _ _ h => h)
    show Wp (match f' s4 q r with | some w => Out.ok w e4 s4 | none => .bad) Q R
    rw [e5]
    exact h5
theorem wp_fn {g : Stt → List PV → Option PV} {d : Cd (List PV)} (h : Wp (d e s) (fun ps e s => ∃ w, g s ps = some w ∧ Q w e s) R) : Wp (dFn g d e s) Q R :=
  wp_bnd (Wp.mono h (fun ps e1 s1 ⟨w, e3, h2⟩ => by
    show Wp (match g s1 ps with | some w => Out.ok w e1 s1 | none => .bad) Q R
    rw [e3]
    exact h2) fun _ _ _ _ h => h)
theorem wp_call {n : Nat} {den : List PV → Stt → Res} {d : Cd (List PV)} (h : Wp (d e s) (fun ps e s => ps.length = n ∧ Fn (den ps s) (fun p s => Q p e s) (fun c w s => R c w e s)) R) : Wp (dCall n den d e s) Q R :=
  wp_bnd (Wp.mono h (fun ps e1 s1 ⟨hl, h1⟩ => by
    rw [if_pos hl]
    show Wp (match den ps s1 with | .ok p s' => Out.ok p e1 s' | .raise c w s' => .raise c w e1 s' | .bad => .bad) Q R
    cases q : den ps s1 with
    | ok p s2 => rw [q] at h1; exact h1
    | raise c w s2 => rw [q] at h1; exact h1
    | bad => rw [q] at h1; exact h1) fun _ _ _ _ h => h)
theorem wp_noPart {Q : Pq (Option Int)} (h : Q none e s) : Wp (dNoPart e s) Q R := h
theorem wp_part {d : Cd PV} {Q : Pq (Option Int)} (h : Wp (d e s) (fun p e s => ∃ i, p = .int i ∧ Q (some i) e s) R) : Wp (dPart d e s) Q R :=
  wp_bnd (Wp.mono h (fun p e1 s1 ⟨i, e3, h2⟩ => by
    subst e3
    exact h2) fun _ _ _ _ h => h)
theorem wp_cut {d : Cd PV} {l h' : Cd (Option Int)} (h : Wp (d e s) (fun p e s => Wp (l e s) (fun l e s => Wp (h' e s) (fun u e s => ∃ w, pCut s p l u = some w ∧ Q w e s) R) R) R) : Wp (dCut d l h' e s) Q R :=
  wp_bnd (Wp.mono h (fun p e1 s1 h1 => wp_bnd (Wp.mono h1 (fun l e2 s2 h2 => wp_bnd (Wp.mono h2 (fun u e3 s3 ⟨w, e4, h3⟩ => by
    show Wp (match pCut s3 p l u with | some w => Out.ok w e3 s3 | none => .bad) Q R
    rw [e4]
    exact h3) fun _ _ _ _ h => h)) fun _ _ _ _ h => h)) fun _ _ _ _ h => h)
theorem wp_list {d : Cd PV} {Q : Pq (List PV)} (h : Wp (d e s) (fun p e s => ∃ xs, itemsOf s p = some xs ∧ Q xs e s) R) : Wp (dListF d e s) Q R :=
  wp_bnd (Wp.mono h (fun p e1 s1 ⟨w, e3, h2⟩ => by
    show Wp (match itemsOf s1 p with | some w => Out.ok w e1 s1 | none => .bad) Q R
    rw [e3]
    exact h2) fun _ _ _ _ h => h)
theorem wp_mthO {i : Nat} {mf : List PV → List PV → Option (PV × List PV)} {d : Cd (List PV)} {ys : List PV} (h0 : e[i]? = some (.own ys))
    (h : Wp (d e s) (fun ps e s => ∃ xs w xs', e[i]? = some (.own xs) ∧ mf xs ps = some (w, xs') ∧ Q w (e.set i (.own xs')) s) R) : Wp (dMthO i mf d e s) Q R := by
  unfold dMthO
  simp only [h0]
  refine wp_bnd (Wp.mono h (fun ps e1 s1 ⟨xs, w, xs', q1, q2, h1⟩ => ?_) fun _ _ _ _ h => h)
  simp only [q1, q2]
  exact h1
theorem wp_mthR {mf : List PV → List PV → Option (PV × List PV)} {o : Cd PV} {d : Cd (List PV)} (h : Wp (o e s) (fun p e s => ∃ n ys, p = .ref n ∧ s[n]? = some (.lst ys) ∧ Wp (d e s) (fun ps e s => ∃ xs w xs', s[n]? = some (.lst xs) ∧ mf xs ps = some (w, xs') ∧ Q w e (s.set n (.lst xs'))) R) R) : Wp (dMthR mf o d e s) Q R := by
  refine wp_bnd (Wp.mono h (fun p e1 s1 ⟨n, ys, e2, h2, h3⟩ => ?_) fun _ _ _ _ h => h)
  subst e2
  simp only [h2]
  refine wp_bnd (Wp.mono h3 (fun ps e4 s4 ⟨xs, w, xs', q1, q2, h1⟩ => ?_) fun _ _ _ _ h => h)
  simp only [q1, q2]
  exact h1
/-! statements -/
variable {QS : Pq Flw} {d : Cd PV}
theorem wp_nxt (h : QS .next e s) : Wp (nxt e s) QS R := h
theorem wp_seq {a b : Cd Flw} (h : Wp (a e s) (SQ (fun e s => Wp (b e s) QS R) QS) R) : Wp (dSeq a b e s) QS R :=
  wp_bnd (Wp.mono h (fun f e1 s1 h1 => by cases f <;> exact h1) fun _ _ _ _ h => h)
theorem wp_drop (h : Wp (d e s) (fun _ e s => QS .next e s) R) : Wp (dDrop d e s) QS R := wp_bnd h
theorem wp_dret (h : Wp (d e s) (fun p e s => QS (.ret p) e s) R) : Wp (dRet d e s) QS R := wp_bnd h
theorem wp_if {t : Cd Bool} {a b : Cd Flw} (h : Wp (t e s) (fun k e s => (k = true → Wp (a e s) QS R) ∧ (k = false → Wp (b e s) QS R)) R) : Wp (dIf t a b e s) QS R :=
  wp_bnd (Wp.mono h (fun b e1 s1 h1 => by
    cases b with
    | true => exact h1.1 rfl
    | false => exact h1.2 rfl) fun _ _ _ _ h => h)
theorem wp_set {i : Nat} (h : Wp (d e s) (fun p e s => QS .next (e.set i (.val p)) s) R) : Wp (dSet i d e s) QS R := wp_bnd h
theorem wp_own {i : Nat} {d : Cd (List PV)} (h : Wp (d e s) (fun xs e s => QS .next (e.set i (.own xs)) s) R) : Wp (dOwn i d e s) QS R := wp_bnd h
theorem wp_asg {g : PV → Cd Unit} (h : Wp (d e s) (fun p e s => Wp (g p e s) (fun _ e s => QS .next e s) R) R) : Wp (dAsg d g e s) QS R :=
  wp_bnd (Wp.mono h (fun p e1 s1 h1 => wp_bnd h1) fun _ _ _ _ h => h)
theorem wp_gset {i : Nat} {p : PV} {Q : Pq Unit} (h : Q () (e.set i (.val p)) s) : Wp (gSet i p e s) Q R := h
theorem wp_gtup {n : Nat} {gs : List PV → Cd Unit} {p : PV} {ps : List PV} {Q : Pq Unit} (hp : p = .tup ps) (hl : ps.length = n) (h : Wp (gs ps e s) Q R) : Wp (gTupD n gs p e s) Q R := by
  subst hp
  unfold gTupD
  simp only [hl, if_true]
  exact h
theorem wp_gcons {g : PV → Cd Unit} {gs : List PV → Cd Unit} {p : PV} {ps : List PV} {Q : Pq Unit} (h : Wp (g p e s) (fun _ e s => Wp (gs ps e s) Q R) R) : Wp (gsCons g gs (p :: ps) e s) Q R := wp_bnd h
theorem wp_gnil {Q : Pq Unit} (h : Q () e s) : Wp (gsNil [] e s) Q R := h
theorem wp_par {i j : Nat} {d : Cd (List PV)} (h : Wp (d e s) (fun ps e s => ∃ p q, ps = [p, q] ∧ QS .next ((e.set i (.val p)).set j (.val q)) s) R) : Wp (dPar i j d e s) QS R :=
  wp_bnd (Wp.mono h (fun ps e1 s1 ⟨p, q, e2, h2⟩ => by
    subst e2
    exact h2) fun _ _ _ _ h => h)
theorem wp_setO {i : Nat} {di dv : Cd PV} (h : Wp (dv e s) (fun w e s => ∃ ys, e[i]? = some (.own ys) ∧ Wp (di e s) (fun k e s => ∃ xs j m, e[i]? = some (.own xs) ∧ k = .int j ∧ ixN xs.length j = some m ∧ QS .next (e.set i (.own (xs.set m w))) s) R) R) : Wp (dSetO i di dv e s) QS R := by
  refine wp_bnd (Wp.mono h (fun w e1 s1 ⟨ys, q0, h1⟩ => ?_) fun _ _ _ _ h => h)
  simp only [q0]
  refine wp_bnd (Wp.mono h1 (fun k e2 s2 ⟨xs, j, m, q1, q2, q3, h2⟩ => ?_) fun _ _ _ _ h => h)
  subst q2
  simp only [q1, q3]
  exact h2
theorem wp_setR {o di dv : Cd PV} (h : Wp (dv e s) (fun w e s => Wp (o e s) (fun p e s => Wp (di e s) (fun k e s => ∃ n xs j m, p = .ref n ∧ k = .int j ∧ s[n]? = some (.lst xs) ∧ ixN xs.length j = some m ∧ QS .next e (s.set n (.lst (xs.set m w)))) R) R) R) : Wp (dSetR o di dv e s) QS R := by
  refine wp_bnd (Wp.mono h (fun w e1 s1 h1 => wp_bnd (Wp.mono h1 (fun p e2 s2 h2 => wp_bnd (Wp.mono h2 (fun k e3 s3 ⟨n, xs, j, m, q1, q2, q3, q4, h3⟩ => ?_) fun _ _ _ _ h => h)) fun _ _ _ _ h => h)) fun _ _ _ _ h => h)
  subst q1 q2
  simp only [q3, q4]
  exact h3
theorem wp_raise {c : Str} (h : Wp (d e s) (fun p e s => R c p e s) R) : Wp (dRaise c d e s) QS R := wp_bnd h
/-! loops -/
theorem wp_forL {g : PV → Cd Unit} {b : Cd Flw} (I : Nat → Env → Stt → Prop) : ∀ (ps : List PV) (n : Nat) (e : Env) (s : Stt), I n e s →
    (∀ (i : Nat) (p : PV) (e : Env) (s : Stt), ps[i]? = some p → I (n + i) e s → Wp (g p e s) (fun _ e s => Wp (b e s) (LQ (I (n + i + 1)) QS) R) R) → (∀ e s, I (n + ps.length) e s → QS .next e s) → Wp (dForL g b ps e s) QS R
  | [], n, e, s, h0, _, h2 => h2 e s (by simpa using h0)
  | p :: ps, n, e, s, h0, h1, h2 => by
    refine wp_bnd (Wp.mono (h1 0 p e s rfl (by simpa using h0)) (fun _ e1 s1 q1 => wp_bnd (Wp.mono q1 (fun f e2 s2 q2 => ?_) fun _ _ _ _ h => h)) fun _ _ _ _ h => h)
    have next : I (n + 1) e2 s2 → Wp (dForL g b ps e2 s2) QS R := fun hi => wp_forL I ps (n + 1) e2 s2 hi (fun i p e s hp hI => by
      have e1 : n + 1 + i = n + (i + 1) := by omega
      rw [e1] at hI ⊢
      exact h1 (i + 1) p e s (by simpa using hp) hI) (fun e s hI => h2 e s (by
      have e1 : n + (p :: ps).length = n + 1 + ps.length := by simp; omega
      rw [e1]
      exact hI))
    cases f with
    | next => exact next q2
    | cont => exact next q2
    | brk => exact q2
    | ret v => exact q2
theorem wp_for {it : Cd (List PV)} {g : PV → Cd Unit} {b : Cd Flw} (h : Wp (it e s) (fun ps e s => ∃ I : Nat → Env → Stt → Prop, I 0 e s ∧ (∀ (i : Nat) (p : PV) (e : Env) (s : Stt), ps[i]? = some p → I i e s → Wp (g p e s) (fun _ e s => Wp (b e s) (LQ (I (i + 1)) QS) R) R) ∧ ∀ e s, I ps.length e s → QS .next e s) R) :
    Wp (dFor it g b e s) QS R :=
  wp_bnd (Wp.mono h (fun ps e1 s1 ⟨I, h0, h1, h2⟩ => wp_forL I ps 0 e1 s1 h0 (fun i p e s hp hI => by
    rw [Nat.zero_add] at hI ⊢
    exact h1 i p e s hp hI) (fun e s hI => h2 e s (by rw [Nat.zero_add] at hI; exact hI))) fun _ _ _ _ h => h)
theorem wp_items {Q : Pq (List PV)} (h : Wp (d e s) (fun p e s => ∃ xs, itemsF p = some xs ∧ Q xs e s) R) : Wp (dItems d e s) Q R := wp_bnd (Wp.mono h (fun p e1 s1 ⟨xs, q, h1⟩ => wp_lift q h1) fun _ _ _ _ h => h)
theorem wp_rng1 {d : Cd (List PV)} {Q : Pq (List PV)} (h : Wp (d e s) (fun ps e s => ∃ xs, rng1 ps = some xs ∧ Q xs e s) R) : Wp (dRng1 d e s) Q R := wp_bnd (Wp.mono h (fun p e1 s1 ⟨xs, q, h1⟩ => wp_lift q h1) fun _ _ _ _ h => h)
theorem wp_rng2 {d : Cd (List PV)} {Q : Pq (List PV)} (h : Wp (d e s) (fun ps e s => ∃ xs, rng2 ps = some xs ∧ Q xs e s) R) : Wp (dRng2 d e s) Q R := wp_bnd (Wp.mono h (fun p e1 s1 ⟨xs, q, h1⟩ => wp_lift q h1) fun _ _ _ _ h => h)
theorem wp_zip {d : Cd (List PV)} {Q : Pq (List PV)} (h : Wp (d e s) (fun ps e s => ∃ xs, zip2 ps = some xs ∧ Q xs e s) R) : Wp (dZip d e s) Q R := wp_bnd (Wp.mono h (fun p e1 s1 ⟨xs, q, h1⟩ => wp_lift q h1) fun _ _ _ _ h => h)
theorem wp_while {c : Cd Bool} {b : Cd Flw} (I : Env → Stt → Prop) (m : Env → Stt → Nat) (h0 : I e s)
    (h1 : ∀ e s, I e s → Wp (c e s) (fun k e1 s1 => (k = true → Wp (b e1 s1) (LQ (fun e2 s2 => I e2 s2 ∧ m e2 s2 < m e s) QS) R) ∧ (k = false → QS .next e1 s1)) R) : Wp (dWhile c b e s) QS R := by
  suffices h : ∀ (n : Nat) (e : Env) (s : Stt), m e s < n → I e s → Wp (iterW c b n e s) QS R by
    have q := h (m e s + 1) e s (Nat.lt_succ_self _) h0
    have hb : iterW c b (m e s + 1) e s ≠ .bad := fun z => by rw [z] at q; exact q
    rw [dWhile_of rfl hb]
    exact q
  intro n
  induction n with
  | zero => intro e s h; exact absurd h (Nat.not_lt_zero _)
  | succ n ih =>
    intro e s hm hI
    refine wp_bnd (Wp.mono (h1 e s hI) (fun k e1 s1 ⟨q1, q2⟩ => ?_) fun _ _ _ _ h => h)
    cases k with
    | false => exact q2 rfl
    | true =>
      rw [if_pos rfl]
      refine wp_bnd (Wp.mono (q1 rfl) (fun f e2 s2 q3 => ?_) fun _ _ _ _ h => h)
      cases f with
      | next => exact ih e2 s2 (Nat.lt_of_lt_of_le q3.2 (Nat.le_of_lt_succ hm)) q3.1
      | cont => exact ih e2 s2 (Nat.lt_of_lt_of_le q3.2 (Nat.le_of_lt_succ hm)) q3.1
      | brk => exact q3
      | ret v => exact q3
theorem fn_run {n k : Nat} {b : Cd Flw} {ps : List PV} {s : Stt} {Q : PV → Stt → Prop} {R : Str → PV → Stt → Prop} (hl : ps.length = k) (h : Wp (b (ps.map Slot.val ++ List.replicate (n - k) Slot.none) s) (FQ Q) (fun c w _ s => R c w s)) : Fn (runD n k b ps s) Q R := by
  unfold runD
  rw [if_pos hl]
  cases q : b (ps.map Slot.val ++ List.replicate (n - k) Slot.none) s with
  | bad => rw [q] at h; exact h
  | raise c w e s => rw [q] at h; exact h
  | ok f e s =>
    rw [q] at h
    cases f <;> exact h
/-! comprehensions -/
theorem wp_compL {own : List Nat} {g : PV → Cd Unit} {t : Cd Bool} {d : Cd PV} {QL : Pq (List PV)} (I : Nat → List PV → Env → Stt → Prop) : ∀ (ps : List PV) (n : Nat) (acc : List PV) (e : Env) (s : Stt), I n acc e s →
    (∀ (i : Nat) (p : PV) (acc : List PV) (e : Env) (s : Stt), ps[i]? = some p → I (n + i) acc e s → Wp (g p e s) (fun _ e s => Wp (t e s) (fun k e s => (k = true → Wp (d e s) (fun w e s => acc.length < sizeLine ∧ I (n + i + 1) (acc ++ [w]) (wipeE e own) s) R) ∧ (k = false → I (n + i + 1) acc (wipeE e own) s)) R) R) →
    (∀ acc e s, I (n + ps.length) acc e s → QL acc e s) → Wp (compL own g t d ps acc e s) QL R
  | [], n, acc, e, s, h0, _, h2 => h2 acc e s (by simpa using h0)
  | p :: ps, n, acc, e, s, h0, h1, h2 => by
    have go : ∀ (acc : List PV) (e : Env) (s : Stt), I (n + 1) acc e s → Wp (compL own g t d ps acc e s) QL R := fun acc e s hi => wp_compL I ps (n + 1) acc e s hi (fun i p acc e s hp hI => by
      have e1 : n + 1 + i = n + (i + 1) := by omega
      rw [e1] at hI ⊢
      exact h1 (i + 1) p acc e s (by simpa using hp) hI) (fun acc e s hI => h2 acc e s (by
      have e1 : n + (p :: ps).length = n + 1 + ps.length := by simp; omega
      rw [e1]
      exact hI))
    refine wp_bnd (Wp.mono (h1 0 p acc e s rfl (by simpa using h0)) (fun _ e1 s1 q1 => wp_bnd (Wp.mono q1 (fun k e2 s2 ⟨q2, q3⟩ => ?_) fun _ _ _ _ h => h)) fun _ _ _ _ h => h)
    cases k with
    | false =>
      rw [if_neg Bool.false_ne_true]
      exact go acc (wipeE e2 own) s2 (q3 rfl)
    | true =>
      rw [if_pos rfl]
      refine wp_bnd (Wp.mono (q2 rfl) (fun w e3 s3 ⟨hl, q4⟩ => ?_) fun _ _ _ _ h => h)
      rw [if_pos hl]
      exact go (acc ++ [w]) (wipeE e3 own) s3 q4
theorem wp_comp {items : Cd (List PV)} {own : List Nat} {g : PV → Cd Unit} {t : Cd Bool} {d : Cd PV} {QL : Pq (List PV)}
    (h : Wp (items e s) (fun ps e1 s => ∃ I : Nat → List PV → Env → Stt → Prop, I 0 [] (wipeE e1 own) s ∧
      (∀ (i : Nat) (p : PV) (acc : List PV) (e : Env) (s : Stt), ps[i]? = some p → I i acc e s → Wp (g p e s) (fun _ e s => Wp (t e s) (fun k e s => (k = true → Wp (d e s) (fun w e s => acc.length < sizeLine ∧ I (i + 1) (acc ++ [w]) (wipeE e own) s) (fun _ _ _ _ => False)) ∧ (k = false → I (i + 1) acc (wipeE e own) s)) (fun _ _ _ _ => False)) (fun _ _ _ _ => False)) ∧
      ∀ acc e2 s, I ps.length acc e2 s → QL acc (restE e1 e2 own) s) R) : Wp (dComp items own g t d e s) QL R := by
  refine wp_bnd (Wp.mono h (fun ps e1 s1 ⟨I, h0, h1, h2⟩ => ?_) fun _ _ _ _ h => h)
  have q := wp_compL (R := fun _ _ _ _ => False) (QL := fun acc e2 s => QL acc (restE e1 e2 own) s) (own := own) (g := g) (t := t) (d := d) I ps 0 [] (wipeE e1 own) s1 h0 (fun i p acc e s hp hI => by
    rw [Nat.zero_add] at hI ⊢
    exact h1 i p acc e s hp hI) (fun acc e s hI => h2 acc e s (by rw [Nat.zero_add] at hI; exact hI))
  show Wp (match compL own g t d ps [] (wipeE e1 own) s1 with | .ok xs e2 s2 => Out.ok xs (restE e1 e2 own) s2 | _ => .bad) QL R
  cases r : compL own g t d ps [] (wipeE e1 own) s1 with
  | ok xs e2 s2 => rw [r] at q; exact q
  | raise c w e2 s2 => rw [r] at q; exact q.elim
  | bad => rw [r] at q; exact q.elim
end
end FS
set_option Elab.async false
set_option linter.all false
set_option maxRecDepth 100000
/-! FsAuto: running a denotation, step by step. -/
namespace FS
open PySem L2
section
variable {e : Env} {s : Stt} {Q : PV → Prop} {a b : Int}
theorem x_add (h : Q (.int (a + b))) : ∃ w, pAdd s (.int a) (.int b) = some w ∧ Q w := ⟨_, rfl, h⟩
theorem x_sub (h : Q (.int (a - b))) : ∃ w, pSub s (.int a) (.int b) = some w ∧ Q w := ⟨_, rfl, h⟩
theorem x_lt (h : Q (.bl (decide (a < b)))) : ∃ w, pLt s (.int a) (.int b) = some w ∧ Q w := ⟨_, rfl, h⟩
theorem x_le (h : Q (.bl (decide (a ≤ b)))) : ∃ w, pLe s (.int a) (.int b) = some w ∧ Q w := ⟨_, rfl, h⟩
theorem x_gt (h : Q (.bl (decide (b < a)))) : ∃ w, pGt s (.int a) (.int b) = some w ∧ Q w := ⟨_, rfl, h⟩
theorem x_ge (h : Q (.bl (decide (b ≤ a)))) : ∃ w, pGe s (.int a) (.int b) = some w ∧ Q w := ⟨_, rfl, h⟩
theorem pMul_int (hc : okMul a b = true) : pMul s (.int a) (.int b) = some (.int (a * b)) := by
  show (if okMul a b = true then some (PV.int (a * b)) else none).or _ = _
  rw [if_pos hc]
  rfl
theorem x_mul (hc : okMul a b = true) (h : Q (.int (a * b))) : ∃ w, pMul s (.int a) (.int b) = some w ∧ Q w := ⟨_, pMul_int hc, h⟩
theorem okMul_l (h : -18446744073709551616 < a ∧ a < 18446744073709551616) : okMul a b = true := by
  unfold okMul
  simp [h.1, h.2]
theorem okMul_r (h : -18446744073709551616 < b ∧ b < 18446744073709551616) : okMul a b = true := by
  unfold okMul
  simp [h.1, h.2]
theorem x_div (h0 : 0 < b) (h1 : b < 1000000000000000000000) (h : Q (.int (a / b))) : ∃ w, pDiv s (.int a) (.int b) = some w ∧ Q w := by
  refine ⟨_, ?_, h⟩
  show (if okDiv b = true then _ else _) = _
  rw [if_pos]
  unfold okDiv
  simp [h0, h1]
theorem x_mod (h0 : 0 < b) (h : Q (.int (a % b))) : ∃ w, pMod s (.int a) (.int b) = some w ∧ Q w := by
  refine ⟨_, ?_, h⟩
  show (if decide (0 < b) = true then _ else _) = _
  rw [if_pos (decide_eq_true h0)]
theorem x_pow (hc : okPow a b = true) (h : Q (.int (a ^ b.toNat))) : ∃ w, pPow s (.int a) (.int b) = some w ∧ Q w := by
  refine ⟨_, ?_, h⟩
  show (if okPow a b = true then _ else _) = _
  rw [if_pos hc]
theorem eqv_int : eqv (.int a) (.int b) = decide (a = b) := by
  unfold eqv PV.toD PyData.eqv
  exact Bool.eq_iff_iff.mpr (by simp)
theorem x_eq (h : Q (.bl (decide (a = b)))) : ∃ w, pEq s (.int a) (.int b) = some w ∧ Q w := ⟨_, rfl, by
  show Q (.bl (eqv (.int a) (.int b)))
  rw [eqv_int]
  exact h⟩
theorem x_ne (h : Q (.bl (!decide (a = b)))) : ∃ w, pNe s (.int a) (.int b) = some w ∧ Q w := ⟨_, rfl, by
  show Q (.bl (!eqv (.int a) (.int b)))
  rw [eqv_int]
  exact h⟩
theorem x_chain {k : Bool} {o : Option PV} {A : Bool → Prop} (hf : o = some (.bl k)) (h : A k) : ∃ k, o = some (.bl k) ∧ A k := ⟨k, hf, h⟩
theorem x_neg (h : Q (.int (-a))) : ∃ w, pNeg (.int a) = some w ∧ Q w := ⟨_, rfl, h⟩
theorem x_bl {k : Bool} {Q : Bool → Prop} (h : Q k) : ∃ b, asB (.bl k) = some b ∧ Q b := ⟨_, rfl, h⟩
theorem x_truB {k : Bool} {Q : Bool → Prop} (h : Q k) : ∃ b, tru s (.bl k) = some b ∧ Q b := ⟨_, rfl, h⟩
end
theorem wp_sq {K : Env → Stt → Prop} {Q : Pq Flw} {e : Env} {s : Stt} (h : K e s) : SQ K Q .next e s := h
theorem wp_sqr {K : Env → Stt → Prop} {Q : Pq Flw} {p : PV} {e : Env} {s : Stt} (h : Q (.ret p) e s) : SQ K Q (.ret p) e s := h
theorem wp_lq {I : Env → Stt → Prop} {Q : Pq Flw} {e : Env} {s : Stt} (h : I e s) : LQ I Q .next e s := h
theorem wp_lqr {I : Env → Stt → Prop} {Q : Pq Flw} {p : PV} {e : Env} {s : Stt} (h : Q (.ret p) e s) : LQ I Q (.ret p) e s := h
theorem wp_fqn {Q : PV → Stt → Prop} {e : Env} {s : Stt} (h : Q .non s) : FQ Q .next e s := h
theorem wp_fqr {Q : PV → Stt → Prop} {p : PV} {e : Env} {s : Stt} (h : Q p s) : FQ Q (.ret p) e s := h
theorem x_spl {k : Bool} {A B : Prop} (h1 : k = true → A) (h2 : k = false → B) : (k = true → A) ∧ (k = false → B) := ⟨h1, h2⟩
theorem x_ix {s : Stt} {p q w : PV} {Q : PV → Prop} (hf : pIx s p q = some w) (h : Q w) : ∃ w, pIx s p q = some w ∧ Q w := ⟨w, hf, h⟩
theorem x_len {s : Stt} {p : List PV} {w : PV} {Q : PV → Prop} (hf : fLen s p = some w) (h : Q w) : ∃ w, fLen s p = some w ∧ Q w := ⟨w, hf, h⟩
theorem x_int {s : Stt} {p : List PV} {w : PV} {Q : PV → Prop} (hf : fInt s p = some w) (h : Q w) : ∃ w, fInt s p = some w ∧ Q w := ⟨w, hf, h⟩
theorem x_isi {s : Stt} {p : List PV} {w : PV} {Q : PV → Prop} (hf : fIsi s p = some w) (h : Q w) : ∃ w, fIsi s p = some w ∧ Q w := ⟨w, hf, h⟩
theorem x_pcut {s : Stt} {p w : PV} {a b : Option Int} {Q : PV → Prop} (hf : pCut s p a b = some w) (h : Q w) : ∃ w, pCut s p a b = some w ∧ Q w := ⟨w, hf, h⟩
theorem x_itm {s : Stt} {p : PV} {w : List PV} {Q : List PV → Prop} (hf : itemsOf s p = some w) (h : Q w) : ∃ w, itemsOf s p = some w ∧ Q w := ⟨w, hf, h⟩
theorem x_itF {p : PV} {w : List PV} {Q : List PV → Prop} (hf : itemsF p = some w) (h : Q w) : ∃ w, itemsF p = some w ∧ Q w := ⟨w, hf, h⟩
theorem x_low {n : Nat} {A : Prop} (hf : Nat.ble n sizeLine = true) (h : A) : n ≤ sizeLine ∧ A := ⟨Nat.le_of_ble_eq_true hf, h⟩
theorem x_num {n m : Nat} {A : Prop} (hf : n = m) (h : A) : n = m ∧ A := ⟨hf, h⟩
theorem x_mR {p : PV} {n : Nat} {ys : List PV} {s : Stt} {A : Nat → List PV → Prop} (h1 : p = .ref n) (h2 : s[n]? = some (.lst ys)) (h : A n ys) : ∃ n ys, p = .ref n ∧ s[n]? = some (.lst ys) ∧ A n ys := ⟨n, ys, h1, h2, h⟩
theorem x_mf {n : Nat} {s : Stt} {mf : List PV → List PV → Option (PV × List PV)} {ps xs xs' : List PV} {w : PV} {A : List PV → PV → List PV → Prop} (h1 : s[n]? = some (.lst xs)) (h2 : mf xs ps = some (w, xs')) (h : A xs w xs') : ∃ xs w xs', s[n]? = some (.lst xs) ∧ mf xs ps = some (w, xs') ∧ A xs w xs' := ⟨xs, w, xs', h1, h2, h⟩
theorem x_mfO {n : Nat} {e : Env} {mf : List PV → List PV → Option (PV × List PV)} {ps xs xs' : List PV} {w : PV} {A : List PV → PV → List PV → Prop} (h1 : e[n]? = some (.own xs)) (h2 : mf xs ps = some (w, xs')) (h : A xs w xs') : ∃ xs w xs', e[n]? = some (.own xs) ∧ mf xs ps = some (w, xs') ∧ A xs w xs' := ⟨xs, w, xs', h1, h2, h⟩
theorem ixN_zero {n : Nat} (h : 0 < n) : ixN n 0 = some 0 := by
  unfold ixN
  rw [if_pos (by omega), if_pos (by omega)]
  rfl
theorem ixN_nat {n i : Nat} (h : i < n) : ixN n (i : Int) = some i := by
  unfold ixN
  rw [if_pos (by omega), if_pos (by omega)]
  simp
theorem atI_nat {α : Type} {xs : List α} {i : Nat} {x : α} (h : xs[i]? = some x) : atI xs (i : Int) = some x := by
  unfold atI
  rw [ixN_nat (by
    by_cases q : i < xs.length
    · exact q
    · rw [List.getElem?_eq_none (by omega)] at h
      cases h)]
  exact h
theorem atI_zero {α : Type} {x : α} {xs : List α} : atI (x :: xs) 0 = some x := atI_nat (i := 0) rfl
theorem atI_of {α : Type} {xs : List α} {i : Int} (h0 : 0 ≤ i) (h1 : i < xs.length) : ∃ x, x ∈ xs ∧ atI xs i = some x := by
  have e : ((i.toNat : Nat) : Int) = i := Int.toNat_of_nonneg h0
  have hl : i.toNat < xs.length := by omega
  refine ⟨xs[i.toNat], List.getElem_mem hl, ?_⟩
  have q := atI_nat (List.getElem?_eq_getElem hl)
  rw [e] at q
  exact q
theorem pop0 {x : PV} {xs : List PV} : mPopAt (x :: xs) [.int 0] = some (x, xs) := by
  unfold mPopAt
  simp only []
  rw [if_pos (by decide), ixN_zero (by simp)]
  rfl
theorem pEq_v {s : Stt} {p q : PV} {b : Bool} (hp : okd 60 (res s p) = true) (hq : okd 60 (res s q) = true) (sp : seen s p = true) (sq : seen s q = true) (e : eqv (res s p) (res s q) = b) : pEq s p q = some (.bl b) := by
  unfold pEq
  rw [hp, hq, sp, sq, e]
  rfl
theorem pNe_v {s : Stt} {p q : PV} {b : Bool} (hp : okd 60 (res s p) = true) (hq : okd 60 (res s q) = true) (sp : seen s p = true) (sq : seen s q = true) (e : eqv (res s p) (res s q) = b) : pNe s p q = some (.bl (!b)) := by
  unfold pNe
  rw [hp, hq, sp, sq, e]
  rfl
theorem x_setR {p k : PV} {n : Nat} {xs : List PV} {j : Int} {m : Nat} {s : Stt} {A : Nat → List PV → Nat → Prop} (h1 : p = .ref n) (h2 : k = .int j) (h3 : s[n]? = some (.lst xs)) (h4 : ixN xs.length j = some m) (h : A n xs m) :
    ∃ n xs j m, p = .ref n ∧ k = .int j ∧ s[n]? = some (.lst xs) ∧ ixN xs.length j = some m ∧ A n xs m := ⟨n, xs, j, m, h1, h2, h3, h4, h⟩
theorem x_part {p : PV} {i : Int} {Q : Int → Prop} (h1 : p = .int i) (h : Q i) : ∃ i, p = .int i ∧ Q i := ⟨i, h1, h⟩
theorem x_par {ps : List PV} {p q : PV} {A : PV → PV → Prop} (h1 : ps = [p, q]) (h : A p q) : ∃ p q, ps = [p, q] ∧ A p q := ⟨p, q, h1, h⟩
theorem x_rng1 {j : Int} {Q : List PV → Prop} (h0 : -1073741824 < j) (h1 : j < 1073741824) (h : Q ((List.range j.toNat).map fun (i : Nat) => PV.int i)) : ∃ xs, rng1 [.int j] = some xs ∧ Q xs := by
  refine ⟨_, ?_, h⟩
  show (if okR j = true then _ else _) = _
  rw [if_pos]
  unfold okR
  simp [h0, h1]
theorem rng_get (n : Nat) (f : Nat → PV) (i : Nat) (p : PV) : ((List.range n).map f)[i]? = some p → i < n ∧ p = f i := fun h => by
  rw [List.getElem?_map] at h
  by_cases hi : i < n
  · rw [List.getElem?_range hi] at h
    exact ⟨hi, (Option.some.inj h).symm⟩
  · rw [List.getElem?_eq_none (by simpa using hi)] at h
    cases h
/-- the script's ints as values -/
theorem toDs_ints (ns : List Int) : (ns.map PV.int).all (okd 59) = true := by
  rw [List.all_map]
  exact List.all_eq_true.mpr fun _ _ => rfl
theorem okd_ints (ns : List Int) : okd 60 (.lst (ns.map PV.int)) = true := toDs_ints ns
theorem eqv_nil (ns : List Int) : eqv (.lst (ns.map PV.int)) (.lst []) = ns.isEmpty := by
  cases ns with
  | nil => rfl
  | cons n ns => rfl
end FS
set_option Elab.async false
set_option linter.all false
set_option maxRecDepth 100000
/-! FsLam: lambdas without parameters handed to a def; defs that make them. -/
namespace FS
open PySem PySem.Spec L2
open LamX (TabS Tabs ExtN CodeO TabB GivesTo LamS lamCx lamEnv pe_lamcall tLam)
theorem Ent.mon {K : PySem.W.Frag} {G G' : Wd} {S : Stt} (e : Ent G G') (su : Sure G) (rs : RepS K G S) : Mon G G' :=
  ⟨e.pre, fun a h => ⟨e.fz a h, by
    obtain ⟨o, q, nt⟩ := su a h
    rw [q]
    exact e.keep a o q nt (fun hm => rs.nf a hm h)⟩⟩
/-! ### defs that want the tables -/
def spDT (K : PySem.W.Frag) (mg : Str → Option Value) (T : List (Addr × Str)) (n : Nat) (den : List PV → Stt → Res) : Sp := fun vs H Q E =>
  ∃ G ps S, G.H = H ∧ (G.T = T ∧ Tabs T G.H) ∧ RepL K G ps vs ∧ RepS K G S ∧ Sure G ∧ vs.length = n ∧ PostD K mg G Q E (den ps S)
section
variable {P : Program} {w : World} {K : PySem.W.Frag} {mg : Str → Option Value} {base : Heap} {T : List (Addr × Str)}
theorem def_okT {x qual : Str} {st : Stmt} {f c : Addr} {oc kV doc pm ct : Value} {od an : Option Addr} {osl : Array (Option Value)} {N ps : List Str} {k : Nat} {d : Cd Flw}
    (l : K.lookup f = some ⟨oc, od, .func (PySem.W.fnOf x qual (defArgs st) (defBody st) (defScope st) .none kV doc pm an (.ref c) ct), osl⟩) (hc : PySem.W.codeIn K (.ref c) qual = true) (S : FnScope N ps (defScope st))
    (hbody : ∀ (A : Around) (outer : List PySem.Env) (s : Shared) (H : Hp) (E : XK) (G : Wd), (G.T = T ∧ Tabs T G.H) → Room k (A.deeper (PyProof.Rows.envOfC qual (defScope st) s.heap.objs.size f (.ref c))) →
      MSs (cxOf (L2.CX P w) P w K mg base N qual (defScope st) f (.ref c) A outer s H E) (zOf K mg G E) (defBody st) d) :
    FnOk P w K mg base (L2.CX P w) (k + 1) f (PySem.W.fnOf x qual (defArgs st) (defBody st) (defScope st) .none kV doc pm an (.ref c) ct) ps (spDT K mg T ps.length (runD N.length ps.length d)) := by
  refine fn_of l hc S (fun vs H Q E h => ?_) fun A outer s H vs Q E hr h => ?_
  · obtain ⟨_, _, _, _, _, _, _, _, e, _⟩ := h
    exact e
  · obtain ⟨G, qs, S', e, hT, r, rs, su, hl, hp⟩ := h
    subst e
    refine ⟨_, hbody A outer s _ E G hT hr, G, qs.map Slot.val ++ List.replicate (N.length - qs.length) Slot.none, S', rfl, start_rep r rs su, ?_⟩
    have hq : qs.length = ps.length := by rw [r.length, hl]
    unfold runD at hp
    rw [if_pos hq, ← hq] at hp
    cases e : d (qs.map Slot.val ++ List.replicate (N.length - qs.length) Slot.none) S' with
    | bad => rw [e] at hp; exact hp.elim
    | raise c w' e1 s1 =>
      rw [e] at hp
      exact fun σ' G' cls dd v m A1 h1 h0 h2 h3 => hp cls dd v G' A1.ent m A1.st A1.sure h1 h0 h2 h3
    | ok f e1 s1 =>
      rw [e] at hp
      cases f with
      | next => exact fun σ' G' m A1 => hp .non G' A1.ent m A1.st A1.sure .non
      | ret p => exact fun v σ' G' m A1 r1 => hp v G' A1.ent m A1.st A1.sure r1
      | brk => exact hp.elim
      | cont => exact hp.elim
structure DfT (P : Program) (w : World) (K : PySem.W.Frag) (mg : Str → Option Value) (base : Heap) (T : List (Addr × Str)) (k : Nat) (x : Str) (n : Nat) (den : List PV → Stt → Res) : Prop where
  ex : ∃ (f : Addr) (fd : FuncData) (ps : List Str), FnOk P w K mg base (L2.CX P w) k f fd ps (spDT K mg T n den) ∧ mg x = some (.ref f) ∧ PySem.W.keepIn K (.ref f) = true ∧ Binds K fd ps []
end
section
variable {X : Cx} {z : Zx} {pos p : Pos} {T : List (Addr × Str)}
theorem me_callT {k j n : Nat} {x : Str} {den : List PV → Stt → Res} {e : Expr} {es : List Expr} {da : Cd (List PV)} (D : DfT X.prog X.w X.K X.mg X.base T k x n den) (hT : z.G0.T = T ∧ Tabs T z.G0.H) (hr : Room j X.A) (tk : Takes X z.W) (ha : MA X z (e :: es) da) (hkj : k ≤ j := by decide) (hK : z.K = X.K := by rfl) (hmg : z.mg = X.mg := by rfl) (hg : Gl X x := by rfl)
    (hdb : (x == ("__debug__" : Str)) = false := by decide) (he : starEach (e :: es) X.env = (false, eval e X.env) :: starEach es X.env := by rfl) (hpl : (backTo pos (starEach es X.env)).any (·.1) = false := by rfl) :
    ME X z (.Call (.Name x p) (e :: es) [] pos) (dCall n den da) := by
  obtain ⟨f, fd, ps, F, hm, hk, hb⟩ := D.ex
  refine (pe_callSD F (hr.mono hkj) hg hm hk hb .nil (passAt tk) ha hdb he hpl).imp fun σ H Q ⟨G, env, S, e, A, P⟩ => ?_
  subst e
  refine toA lwE A P fun qs env1 S1 vs G1 m1 A1 r1 P1 => ?_
  by_cases hl : qs.length = n
  · rw [if_pos hl] at P1
    rw [List.append_nil]
    rw [← hK, ← hmg]
    have hT1 : G1.T = T ∧ Tabs T G1.H := by
      refine ⟨A1.ent.T.trans hT.1, ?_⟩
      have q := A1.ent.tb (by rw [hT.1]; exact hT.2)
      rw [hT.1] at q
      exact q
    refine ⟨G1, qs, S1, rfl, hT1, r1, A1.st, A1.sure, by rw [← r1.length]; exact hl, ?_⟩
    cases e : den qs S1 with
    | bad => simp only [e] at P1; exact P1.elim
    | ok p S2 =>
      simp only [e] at P1
      exact fun v G' en m s su r => P1 v G' m (A1.call en m s su) r
    | raise c w S2 =>
      simp only [e] at P1
      exact fun cls d v G' en m s su h1 h0 h2 r => P1 σ G' cls d v m (A1.call en m s su) h1 (A1.ent.there d h0) h2 r
  · rw [if_neg hl] at P1
    exact P1.elim
end
/-! ### what is handed over -/
/-! ### the end of a law with tables -/
theorem law_atT {l : PySem.W.OpenLaw} {w : World} {K : PySem.W.Frag} {mg : Str → Option Value} {h : Heap} {fa : Addr} {k : Nat} {x : Str} {fd : FuncData} {cs : List (Addr × Addr)} {TT : List (Addr × Str)} {den : List PV → Stt → Res}
    (h1 : ∀ p ∈ cs, h.get? p.2 = some (PySem.W.tabObj #[])) (h2 : ∀ p ∈ cs, K.lookup p.2 = none) (h3 : ∀ p ∈ cs, PySem.W.CodeHd h p.1 p.2) (hb : ∀ (s : Shared) (u : Value), BindsTo s fd ⟨[u], []⟩ [(x, u)])
    (hT : ∀ p ∈ TT, ∃ c, (c, p.1) ∈ cs) (hden : ∀ ns : List Int, ns.length ≤ 63 → ∃ S, den [.scr ns] [] = .ok (.bl true) S)
    (F : ∀ base : Heap, K.In base → base.Ns mainGlobals mg → (∀ p ∈ cs, TabB base mg p.1 p.2) → FnOk l.prog w K mg base (L2.CX l.prog w) k fa fd [x] (spDT K mg TT 1 den)) : LamX.LawAtS l w K (L2.CX l.prog w) k 63 x mg fa h := by
  refine ⟨fd, cs, spDT K mg TT 1 den, h1, h2, h3, hb, fun H a ns hl _ hP hs => ?_, F⟩
  obtain ⟨S, hS⟩ := hden ns hl
  have tabs : Tabs TT H := fun p hp => by
    obtain ⟨c, hc⟩ := hT p hp
    exact TabS.nil (hP (c, p.1) hc)
  have fin : ∀ (fz : Addr → Prop), (∀ b, fz b → ∃ o, H b = some o ∧ NT o) → Rep K ⟨[], fz, H, TT⟩ (.scr ns) (.ref a) → spDT K mg TT 1 den [.ref a] H (fun v _ => v = V.bl true) (fun _ _ _ => False) := fun fz su r => by
    refine ⟨⟨[], fz, H, TT⟩, [.scr ns], [], rfl, ⟨rfl, tabs⟩, .cons r .nil, ⟨rfl, List.nodup_nil, fun b hb => absurd hb List.not_mem_nil, fun i b o h1 h2 => by
      have h3 : ([] : List Addr)[i]? = some b := h1
      simp at h3⟩, su, rfl, ?_⟩
    rw [hS]
    exact fun v G' _ _ _ _ rv => by cases rv; rfl
  rcases hs with hs | hs
  · refine fin (fun b => b = a) (fun b hb => ?_) (.scr (.inl ⟨rfl, .inl hs⟩))
    rw [hb]
    rcases hs with hs | ⟨o, hs⟩
    · exact ⟨_, hs, nt_lst⟩
    · exact ⟨_, hs, nt_frz⟩
  · exact fin (fun _ => False) (fun b hb => hb.elim) (.scr (.inr (.inr hs)))
/-- a code object and its table -/
theorem code_hd {h : Heap} {K : PySem.W.Frag} (X : K.In h) {c Pt : Addr} {od : Option Addr} {vs : Array Value} {sl : Array (Option Value)} {file : Str} {tf tg tt : Tok} {flags i10 : Int} {inF : Bool}
    (l : K.lookup c = some ⟨.type "code", od, .fields vs, sl⟩) (h11 : vs[11]? = some (.ref Pt)) (e11 : vs.getD 11 .none = .ref Pt) (e18 : vs.getD 18 .none = .str file tf) (e7 : vs.getD 7 .none = .int flags tg) (e9 : vs.getD 9 .none = .bool inF) (e10 : vs.getD 10 .none = .int i10 tt) (ne : c ≠ Pt) : PySem.W.CodeHd h c Pt :=
  ⟨_, vs, file, tf, flags, tg, inF, i10, tt, X c _ l, rfl, rfl, h11, e11, e18, e7, e9, e10, ne⟩
end FS
set_option Elab.async false
set_option linter.all false
set_option maxRecDepth 100000
/-! FsPar3: a, b, c = x, y, z. -/
namespace FS
open PySem PySem.Spec L2
section
variable {X : Cx} {z : Zx} {pos p : Pos}
def dPar3 (i j l : Nat) (d : Cd (List PV)) : Cd Flw := bnd d fun ps => match ps with
  | [p, q, r] => fun e s => .ok .next (((e.set i (.val p)).set j (.val q)).set l (.val r)) s
  | _ => fun _ _ => .bad
end
end FS
set_option Elab.async false
set_option linter.all false
set_option maxRecDepth 100000
/-! FsRep: tuple * int, any number of times. -/
namespace FS
open PySem PySem.Spec L2 PySem.W
end FS
set_option Elab.async false
set_option linter.all false
set_option maxRecDepth 100000
/-! FsSum: sum of a list or a tuple of ints; range with a step; a, b = new, e. -/
namespace FS
open PySem PySem.Spec L2 PyProof PyProof.Rows PySem.W
def rSumT (K : PySem.W.Frag) : List V → Hp → VK → Prop := fun vs H Q => ∃ (a : Addr) (ns : List Int), vs = [V.ref a] ∧ SqT K H a (ns.map V.int) ∧ Q (.int ns.sum) H
theorem cr_sumT {X : Cx} (hc : X.calm = true) : CallR X (.builtin "sum") (rSumT X.K) := by
  intro pins s σ H vs us Q I r ⟨a, ns, e, hs, q⟩
  subst e
  rw [Vals.ref1 r]
  obtain ⟨its, rv, ⟨w, ho, hcl, n, hd⟩, hz⟩ := I.tuple hs
  have hi := rv.ints
  obtain ⟨xs, e⟩ := AllInts.items (IntsAre.allInts hi)
  have hn : xs.toList.map (fun x => x.1) = ns := by
    rw [← nums_intItems xs, ← e]
    exact IntsAre.numsOf hi
  refine ktm_sumG (xs := xs) (I.ok.hd hc) ⟨w, ho, hcl, n, by rw [hd, e]⟩ fun h' tk t' hk => ?_
  refine ⟨.int ns.sum, H, I.kept hk, ⟨t', ?_⟩, q⟩
  rw [preSum_eq xs xs.size, hn, List.take_of_length_le]
  rw [← hn, List.length_map]
  exact Nat.le_of_eq (Array.length_toList)
def intsOf : List PV → Option (List Int)
  | [] => some []
  | .int n :: xs => (intsOf xs).map (n :: ·)
  | _ :: _ => none
theorem intsOf_rep {K : PySem.W.Frag} {G : Wd} : ∀ {xs : List PV} {vs : List V} {ns : List Int}, intsOf xs = some ns → RepL K G xs vs → vs = ns.map V.int
  | [], _, ns, e, r => by
    cases r
    cases e
    rfl
  | .int n :: xs, _, ns, e, r => by
    cases r with
    | cons r0 rr =>
      cases r0
      simp only [intsOf] at e
      cases q : intsOf xs with
      | none => rw [q] at e; cases e
      | some ms =>
        rw [q] at e
        cases e
        rw [intsOf_rep q rr]
        rfl
  | .non :: xs, _, ns, e, r => by cases e
  | .bl _ :: xs, _, ns, e, r => by cases e
  | .str _ :: xs, _, ns, e, r => by cases e
  | .tup _ :: xs, _, ns, e, r => by cases e
  | .lst _ :: xs, _, ns, e, r => by cases e
  | .scr _ :: xs, _, ns, e, r => by cases e
  | .ref _ :: xs, _, ns, e, r => by cases e
  | .raw _ :: xs, _, ns, e, r => by cases e
  | .dic _ _ :: xs, _, ns, e, r => by cases e
/-- sum of ints -/
def fSum (S : Stt) (ps : List PV) : Option PV := match ps with
  | [.tup xs] => (intsOf xs).map fun ns => .int ns.sum
  | [.lst xs] => (intsOf xs).map fun ns => .int ns.sum
  | _ => none
section
variable {X : Cx} {z : Zx} {pos p : Pos}
theorem c_sum (hc : X.calm = true := by rfl) (hK : z.K = X.K := by rfl) : CallD X z (.builtin "sum") fSum := by
  refine ⟨_, (cr_sum hc).or (cr_sumT hc), fun G S ps w vs Q h s su r k => ?_⟩
  rw [← hK]
  match ps, h with
  | [.tup xs], h =>
    obtain ⟨v, rfl, rp⟩ := repL1 r
    have h' : (intsOf xs).map (fun ns => PV.int ns.sum) = some w := h
    cases q : intsOf xs with
    | none => rw [q] at h'; cases h'
    | some ns =>
      rw [q] at h'
      cases h'
      obtain ⟨a, us, rfl, hq, rr⟩ := rp.sqT
      have e := intsOf_rep q rr
      subst e
      exact .inr ⟨a, ns, rfl, hq, k _ G (.refl G) su (.int _)⟩
  | [.lst xs], h =>
    obtain ⟨v, rfl, rp⟩ := repL1 r
    have h' : (intsOf xs).map (fun ns => PV.int ns.sum) = some w := h
    cases q : intsOf xs with
    | none => rw [q] at h'; cases h'
    | some ns =>
      rw [q] at h'
      cases h'
      obtain ⟨a, us, rfl, hq, rr⟩ := rp.sqL
      have e := intsOf_rep q rr
      subst e
      exact .inl ⟨a, ns, rfl, SqL.of hq, k _ G (.refl G) su (.int _)⟩
/-- range(i, j, -1) -/
def rng3 (ps : List PV) : Option (List PV) := match ps with
  | [.int i, .int j, .int c] => if (okR i && okR j && decide (c = -1)) = true then some ((List.range (i - j).toNat).map fun (k : Nat) => PV.int (i + k * -1)) else none
  | _ => none
def dRng3 (d : Cd (List PV)) : Cd (List PV) := bnd d fun ps => lift (rng3 ps)
/-! ### new lists side by side -/
/-- a new list, then a value that nothing is raised for: a, b = new, e -/
def dOwnSet (i j : Nat) (da : Cd (List PV)) (db : Cd PV) : Cd Flw := bnd da fun xs => fun e s => match db e s with
  | .ok q e s => .ok .next ((e.set i (.own xs)).set j (.val q)) s
  | _ => .bad
/-- a, b, c = e, new, [] -/
def dSetOwnNil (i j l : Nat) (da : Cd PV) (db : Cd (List PV)) : Cd Flw := bnd da fun p => bnd db fun xs => fun e s => .ok .next (((e.set i (.val p)).set j (.own xs)).set l (.own [])) s
variable {a b : Expr} {da : Cd PV} {k2 : Nat} {lpos px py pw pt pt2 : Pos} {kt : Nat}
end
end FS
set_option Elab.async false
set_option linter.all false
set_option maxRecDepth 100000
/-! FsNilC: a, b = e, [] of names that others see. -/
namespace FS
open PySem PySem.Spec L2 PyProof PyProof.Rows PySem.W
end FS
set_option Elab.async false
set_option linter.all false
set_option maxRecDepth 100000
/-! FsCompT: comprehensions that make lambdas: the tables are known within. -/
namespace FS
open PySem PySem.Spec L2
open LamX (TabS Tabs CodeO)
def TOk (T : List (Addr × Str)) (G : Wd) : Prop := G.T = T ∧ Tabs T G.H
section
variable {K : PySem.W.Frag} {G0 G : Wd} {S : Stt} {env : Env} {σ : St} {T : List (Addr × Str)}
theorem at_T (A : At K G0 G S env σ) (h : TOk T G0) : TOk T G := ⟨A.ent.T.trans h.1, by
  have q := A.ent.tb (by rw [h.1]; exact h.2)
  rw [h.1] at q
  exact q⟩
theorem less_T (A : At K G0 G S env σ) (h : TOk T G) : TOk T (G.less env σ) := by
  have up : ∀ a o, G.H a = some o → (∀ vs, o ≠ .lst vs) → (G.less env σ).H a = some o := fun a o e n => by
    refine (less_same (fun ⟨i, ⟨xs, ho⟩, q⟩ => ?_)).trans e
    obtain ⟨b, vs, e1, e2, _⟩ := A.en.own i xs ho
    rw [e1] at q
    cases q
    rw [e] at e2
    exact n vs (Option.some.inj e2)
  refine ⟨h.1, fun p hp => ?_⟩
  obtain ⟨ps, h1, h2, h3⟩ := h.2 p hp
  refine ⟨ps, up _ _ h1 (fun vs z => by cases z), h2, fun pos cv hc => ?_⟩
  obtain ⟨c, e, hcc⟩ := h3 pos cv hc
  exact ⟨c, e, up _ _ hcc (fun vs z => by unfold CodeO at z; cases z)⟩
end
def REbT (T : List (Addr × Str)) (z : Zx) (d : Cd PV) : TE := fun σ H Q => ∃ G0, TOk T G0 ∧ RE (zc z G0) d σ H Q
def RTbT (T : List (Addr × Str)) (z : Zx) (d : Cd Bool) : TT := fun σ H Q => ∃ G0, TOk T G0 ∧ RT (zc z G0) d σ H Q
section
variable {X : Cx} {z : Zx} {pos p apos cpos : Pos} {T : List (Addr × Str)}
abbrev MEbT (T : List (Addr × Str)) (X : Cx) (z : Zx) (e : Expr) (d : Cd PV) : Prop := ∀ G0, TOk T G0 → ME X (zc z G0) e d
def MTsbT (T : List (Addr × Str)) (X : Cx) (z : Zx) (e : List Expr) (d : Cd Bool) : Prop := PTs X e (RTbT T z d)
theorem mts_nilT : MTsbT T X z [] (ret true) := ⟨fun pins s σ H Q I h => by
  obtain ⟨G0, _, G, env, S, e, A, P⟩ := h
  subst e
  exact pts_nil.run pins s σ _ Q I (P G (Mon.refl _) A)⟩
theorem comp_rdT {T : List (Addr × Str)} (hTT : TOk T z.G0) {items : Cd (List PV)} {own : List Nat} {g : PV → Cd Unit} {t : Cd Bool} {d : Cd PV} {σ : St} {H : Hp} {Q : VK} (h : RF z (dComp items own g t d) σ H Q) :
    tLc (RI z items) (RGc z own g) (RTbT T z t) (REbT T z d) own σ H Q := by
  obtain ⟨G, env, S, e, A, P⟩ := h
  subst e
  refine toI lwF A P fun ps env1 S1 J G1 m1 A1 en P1 => ?_
  intro D hD
  have A0 := wipe_at A1 own
  have start : PP z σ Q env1 own G1 (compL own g t d ps [] (wipeE env1 own) S1) := by
    cases e : compL own g t d ps [] (wipeE env1 own) S1 with
    | ok xs e2 s2 => simp only [e] at P1; exact P1
    | raise c w e2 s2 => simp only [e] at P1; exact P1.elim
    | bad => simp only [e] at P1; exact P1.elim
  refine ⟨fun i m H => m = ps.length - i ∧ i ≤ ps.length ∧ ∃ G e s acc vs, G.H = H ∧ Mon G1 G ∧ At z.K z.G0 G s e (wipe σ own) ∧ Alone z G e (wipe σ own) D vs ∧ RepL z.K G acc vs ∧ PP z σ Q env1 own G (compL own g t d (ps.drop i) acc e s), ⟨ps.length, by simp, Nat.zero_le _, G1.fresh D (.lst []), _, _, [], [], rfl, (Ext.fresh hD).mon A1.sure, A0.fresh hD, A0.alone (vs := []) hD, .nil, ?_⟩, ?_⟩
  · exact (lwPP (z := z) (z' := z)).later _ _ _ (by simpa using start) ((Ext.fresh hD).mon A1.sure)
  · rintro i m H ⟨rfl, hi, G, e, s, acc, vs, rfl, M, A, al, ra, PQ⟩
    by_cases hl : i < ps.length
    · have ed : ps.drop i = ps[i] :: ps.drop (i + 1) := List.drop_eq_getElem_cons hl
      rw [ed] at PQ
      obtain ⟨q1, q2⟩ := en.go i ps[i] G M A.sure (by simp [hl])
      refine .inr ⟨q1, fun H' => ∃ G e s acc vs, G.H = H' ∧ Mon G1 G ∧ At z.K z.G0 G s e (wipe σ own) ∧ Alone z G e (wipe σ own) D vs ∧ RepL z.K G acc vs ∧ PP z σ Q env1 own G (compL own g t d (ps.drop (i + 1)) acc e s), fun H' h => ⟨ps.length - (i + 1), by omega, rfl, hl, h⟩, fun x H' y => ?_⟩
      obtain ⟨G2, rfl, x2, s2, r2⟩ := q2 x H' y
      have m2 := x2.mon A.sure
      have A2 := A.ext x2 s2
      have al2 : Alone z G2 e (wipe σ own) D vs := ⟨x2.keep _ _ al.at_, fun h => (x2.fzn D h).elim al.nf (fun h => by rw [al.at_] at h; cases h), by rw [x2.m]; exact al.nm, al.n0, al.no⟩
      have hnD : ¬ ∃ i, IsOwn e i ∧ (wipe σ own)[i]? = some (some (.ref D)) := fun ⟨i, ho, q⟩ => al2.no i ho q
      have hD0 : (G2.less e (wipe σ own)).H D = some (.lst vs) := (less_same hnD).trans al2.at_
      -- D stands while the block runs
      have keepD : ∀ {G3 : Wd} {S3 : Stt} {e3 : Env} {σ3 : St}, At z.K (G2.less e (wipe σ own)) G3 S3 e3 σ3 → Alone z G3 e3 σ3 D vs := fun {G3 S3 e3 σ3} B =>
        ⟨B.ent.keep D _ hD0 nt_lst al2.nm, fun h => (B.ent.fzn D h).elim al2.nf (fun h => h.no hD0 nt_lst), fun h => (B.ent.new D h).elim al2.nm (fun h => h.no hD0 nt_lst), al2.n0,
          fun i ho q => (B.mine i D ho q).no hD0 nt_lst⟩
      have Mx := M.trans m2
      refine toGc (lwPP (z := z)) A2.aside r2 ((lwPP (z := z) (z' := z)).later _ _ _ PQ m2) fun env3 S3 σ3 G3 m3 B3 w3 P3 => ⟨w3.trans (wipe_id own), G2.less e (wipe σ own), less_T A2 (at_T A2 hTT), ?_⟩
      refine toT (lwPP (z := z)) B3 P3 fun b env4 S4 G4 m4 B4 P4 => ?_
      -- the frame behind a turn
      have fin : ∀ {G5 : Wd} {S5 : Stt} {e5 : Env}, At z.K (G2.less e (wipe σ own)) G5 S5 e5 σ3 → At z.K z.G0 G5 S5 (wipeE e5 own) (wipe σ own) ∧ Alone z G5 (wipeE e5 own) (wipe σ own) D vs := fun {G5 S5 e5} B => by
        have hw : wipe σ3 own = wipe σ own := w3.trans (wipe_id own)
        have B' := wipe_at (z := zc z (G2.less e (wipe σ own))) B own
        rw [hw] at B'
        exact ⟨A2.back B', keepD B'⟩
      cases b with
      | false =>
        rw [if_neg Bool.false_ne_true] at P4 ⊢
        obtain ⟨F1, F2⟩ := fin B4
        exact ⟨G4, _, S4, acc, vs, rfl, (Mx.trans m3).trans m4, F1, F2, ra.mon ((m2.trans m3).trans m4), P4⟩
      | true =>
        rw [if_pos rfl] at P4 ⊢
        refine ⟨G2.less e (wipe σ own), less_T A2 (at_T A2 hTT), toE (lwPP (z := z)) B4 P4 fun w env5 S5 v G5 m5 B5 r5 P5 => ?_⟩
        obtain ⟨F1, F2⟩ := fin B5
        have Ma := (m2.trans m3).trans (m4.trans m5)
        by_cases hz : acc.length < sizeLine
        · rw [if_pos hz] at P5
          refine ⟨vs, F2.at_, by rw [← ra.length]; exact hz, ?_⟩
          obtain ⟨N1, N2, N3⟩ := F1.pokeAlone (vs' := vs ++ [v]) F2
          exact ⟨_, _, S5, acc ++ [w], vs ++ [v], rfl, ((Mx.trans m3).trans (m4.trans m5)).trans N1, N2, N3, ((ra.mon Ma).snoc r5).mon N1, (lwPP (z := z) (z' := z)).later _ _ _ P5 N1⟩
        · rw [if_neg hz] at P5
          exact P5.elim
    · have ed : ps.drop i = [] := List.drop_eq_nil_of_le (by omega)
      rw [ed] at PQ
      refine .inl ⟨en.stop i G M (by omega), ?_⟩
      have F := rest_at A1 M A
      exact PQ D vs G (Mon.refl _) F ra al.at_ al.nf al.nm al.n0 fun j ho q => by
        obtain ⟨xs, ho⟩ := ho
        obtain ⟨h1, h2⟩ := rest_own (σ := σ) (a := 0) ho
        exact al.no j ⟨xs, h2⟩ (by rw [wipe_get, if_neg h1]; exact q)
variable {elt tg iter : Expr} {ifs : List Expr} {scope : Scope} {items : Cd (List PV)} {g : PV → Cd Unit} {t : Cd Bool} {d : Cd PV}
theorem pebT {e : Expr} {d : Cd PV} (h : MEbT T X z e d) : PE X e (REbT T z d) := ⟨fun pins s σ H Q I ⟨G0, hT, q⟩ => (h G0 hT).run pins s σ H Q I q⟩
end
end FS
set_option Elab.async false
set_option linter.all false
set_option maxRecDepth 100000
/-! FsCompS: comprehensions with tables, assigned. -/
namespace FS
open PySem PySem.Spec L2
open LamX (TabS Tabs CodeO)
section
variable {X : Cx} {z : Zx} {pos p apos cpos : Pos} {T : List (Addr × Str)}
variable {elt tg iter : Expr} {ifs : List Expr} {scope : Scope} {items : Cd (List PV)} {g : PV → Cd Unit} {t : Cd Bool} {d : Cd PV}
theorem ms_compT (hTT : z.G0.T = T ∧ Tabs T z.G0.H) (i : Nat) {y : Str} {py spos : Pos} (own : List (Str × Nat)) (hN : X.N.Nodup) (hi : MI X z tg iter items) {N : List Str} {sc : Scope} (ok : blkC N sc scope own = true)
    (hg : ∀ (s : Shared) (H : Hp) (C : Addr) (cl : List (Str × Addr)) (fp : List Addr), MGc (X.blk s H scope (compEnvC scope cl C X.env) fp) z (own.map (·.2)) tg g)
    (ht : ∀ (s : Shared) (H : Hp) (C : Addr) (cl : List (Str × Addr)) (fp : List Addr), MTsbT T (X.blk s H scope (compEnvC scope cl C X.env) fp) z ifs t)
    (he : ∀ (s : Shared) (H : Hp) (C : Addr) (cl : List (Str × Addr)) (fp : List Addr), MEbT T (X.blk s H scope (compEnvC scope cl C X.env) fp) z elt d) (hy : X.N[i]? = some y := by rfl) (hyl : X.env.scope.names.lookup y = some .local := by rfl)
    (hsw : swapsWith (.ListComp elt [⟨tg, iter, ifs, 0⟩] scope pos) (some (.Name y py)) spos.line X.env = pure true := by exact sw_true rfl rfl rfl (by decide +kernel))
    (hc : X.calm = true := by rfl) (hs : ∀ x, foldedSetIterable iter X.env x = pure x := by intro _; rfl) (hXN : X.N = N := by rfl) (hsc : X.env.scope = sc := by rfl) :
    MS X z (.Assign [.Name y py] (.ListComp elt [⟨tg, iter, ifs, 0⟩] scope pos) spos) (dSet i (dFrz (dComp items (own.map (·.2)) g t d))) :=
  PS.imp (ps_setLc hc hN hy hyl hsw hi (blkOk_by (by rw [hXN, hsc]; exact ok)) hg ht (fun s H C cl fp => pebT (he s H C cl fp)) hs) fun D σ H ⟨G, env, S, e, A, P⟩ => by
    subst e
    unfold dSet dFrz at P
    rw [bnd_assoc] at P
    exact comp_rdT hTT (toF lwS A P fun xs env1 S1 a vs G1 m1 A1 r1 al P1 => P1 _ (G1.freeze a) mon_freeze ((A1.freeze al).setVal (.lst (.inr rfl) al.at_ (r1.mon mon_freeze))))
end
end FS
set_option Elab.async false
set_option linter.all false
set_option maxRecDepth 100000
/-! FsCount: t.count(i), t a tuple of ints that has no dict. -/
namespace L2
open PySem PySem.Spec PyProof.Rows
def NdT (K : PySem.W.Frag) (H : Hp) (a : Addr) : Prop := (∃ (o : Obj) (vs : List V), o.dict = none ∧ H a = some (.frz o (.tup vs))) ∨ ∃ o, K.lookup a = some o ∧ o.dict = none
def tCnt (K : PySem.W.Frag) (to : TE) (te : TA) : TE := fun σ H Q => to σ H fun x H1 => ∃ (a : Addr) (ns : List Int), x = .ref a ∧ NdT K H1 a ∧ SqT K H1 a (ns.map V.int) ∧ te σ H1 fun ys H2 => ∃ i, ys = [.int i] ∧ SqT K H2 a (ns.map V.int) ∧ Q (.int (ns.count i : Nat)) H2
theorem countP_ints (i : Int) : ∀ ns : List Int, (ns.map PyData.int).countP (fun y => PyData.eqv y (.int i)) = ns.count i
  | [] => rfl
  | n :: ns => by
    rw [List.map_cons, List.countP_cons, countP_ints i ns, List.count_cons]
    congr 1
theorem plain_ints : ∀ ns : List Int, PyData.plainAll (ns.map PyData.int) = true
  | [] => rfl
  | n :: ns => by
    rw [List.map_cons, PyData.plainAll, plain_ints ns]
    rfl
theorem depth_ints : ∀ ns : List Int, PyData.depthAll (ns.map PyData.int) = 0
  | [] => rfl
  | n :: ns => by
    rw [List.map_cons, PyData.depthAll, depth_ints ns]
    rfl
theorem dp_ints {K : PySem.W.Frag} {H : Hp} : ∀ ns : List Int, DpAll K H (ns.map V.int) (ns.map PyData.int)
  | [] => .nil
  | n :: ns => .cons (.int n) (dp_ints ns)
section
variable {X : Cx} {o e : Expr} {to : TE} {te : TA} {apos cpos : Pos} {k : Nat}
theorem pe_cnt (hr : Room k X.A) (ho : PE X o to) (he : PA X [e] te) (hbase : attributeBase o "count" X.env (eval o X.env) = eval o X.env := by rfl)
    (hfew : ((backTo cpos (starEach [e] X.env)).all (fun x => !x.1) && (backToKw cpos (keywordEach [] X.env)).all (fun x => x.1.isSome)
      && decide ([e].length + ([] : List Keyword).length + (if ([] : List Keyword).isEmpty then 0 else 1) < 30)) = true := by rfl)
    (hline : (apos.endLine == cpos.line) = true := by rfl) (hs : starEach [e] X.env = (false, eval e X.env) :: starEach [] X.env := by rfl) (hplain : (backTo cpos (starEach [] X.env)).any (·.1) = false := by rfl) :
    PE X (.Call (.Attribute o "count" apos) [e] [] cpos) (tCnt X.K to te) := by
  refine ⟨fun pins s σ H Q I h => ?_⟩
  refine wpAny_Call_method_late hbase hfew hline rfl (thn (ho.run pins s σ H _ I h) fun v s1 ⟨x, H1, I1, r1, a, ns, ex, nd, hq, q1⟩ => ?_)
  subst ex
  obtain rfl : v = Value.ref a := r1
  obtain ⟨its0, rv0, ⟨ob0, ho0, hc0, hd0⟩, hz0⟩ := I1.tuple hq
  have hdict : ∃ ob, s1.heap.get? a = some ob ∧ ob.dict = none := by
    rcases nd with ⟨ob, vs, h1, h2⟩ | ⟨ob, h1, h2⟩
    · obtain ⟨h3, _⟩ : s1.heap.get? a = some ob ∧ _ := I1.hok a _ h2
      exact ⟨ob, h3, h1⟩
    · exact ⟨ob, I1.kIn a ob h1, h2⟩
  refine ⟨"tuple", "tuple.count", PySem.F.plainAttrs_tuple, PySem.F.slot_tuple_count, PySem.F.type_tuple_count, ⟨ob0, ho0, hc0⟩, fun b hb => by cases hb; exact hdict, ?_⟩
  have hA := he.run cpos pins s1 σ H1 _ I1 q1
  rw [hs] at hA ⊢
  refine Calls.callWith_builtin (by show (false || (backTo cpos (starEach [] X.env)).any (·.1)) = false; rw [hplain] <;> rfl) (Calls.evalArgs_plain ?_)
  refine thn hA fun us s2 ⟨vs, H2, I2, r2, q2⟩ => ?_
  obtain ⟨i, ei, hq2, q⟩ := q2
  subst ei
  obtain ⟨u, rfl, ru⟩ := vals1 r2
  obtain ⟨its, rv, p, hz⟩ := I2.tuple hq2
  obtain ⟨as, h4⟩ := Dp.readsAll I2 (ns.map PyData.int) _ its (dp_ints ns) rv
  obtain ⟨bs, h5⟩ := Dp.reads I2 (.int i) (.int i) u (.int i) ru
  refine SeqAt.count_tuple_data (vs := its.toArray) (d := .int i) (xs := ns.map PyData.int) p h4 h5 (plain_ints ns) rfl ?_ ?_
  · rw [depth_ints]
    have := hr.un
    have : cLine > 0 := by omega
    have h9 : X.A.units + 200 < cLine := by omega
    show X.A.units + 1 + min 0 _ < cLine
    rw [Nat.zero_min]
    omega
  · rw [countP_ints]
    exact ⟨.int _, H2, I2.tok _, ⟨_, rfl⟩, q⟩
end
end L2
namespace FS
open PySem PySem.Spec L2
/-- t.count(i) -/
def dCount (da : Cd PV) (db : Cd (List PV)) : Cd PV := bnd da fun p => match p with
  | .tup xs => match intsOf xs with
    | some ns => bnd db fun q => match q with
      | [.int i] => ret (.int (ns.count i : Nat))
      | _ => fun _ _ => .bad
    | none => fun _ _ => .bad
  | _ => fun _ _ => .bad
section
variable {X : Cx} {z : Zx} {a b : Expr} {da : Cd PV} {db : Cd (List PV)} {apos cpos : Pos} {k : Nat}
theorem Td.nd {K : PySem.W.Frag} {G : Wd} {a : Addr} {vs : List V} (h : Td K G a vs) : NdT K G.H a := by
  rcases h with ⟨_, o, h1, h2⟩ | ⟨(h | ⟨o, h⟩) | ⟨o, _, _, h, _⟩, h2⟩
  · exact .inl ⟨o, vs, h1, h2⟩
  · cases h
  · cases h
  · exact .inr ⟨o, h, h2 o h⟩
theorem me_count (hr : Room k X.A) (ha : ME X z a da) (hb : MA X z [b] db) (hK : z.K = X.K := by rfl) (hbase : attributeBase a "count" X.env (eval a X.env) = eval a X.env := by rfl)
    (hfew : ((backTo cpos (starEach [b] X.env)).all (fun x => !x.1) && (backToKw cpos (keywordEach [] X.env)).all (fun x => x.1.isSome)
      && decide ([b].length + ([] : List Keyword).length + (if ([] : List Keyword).isEmpty then 0 else 1) < 30)) = true := by rfl)
    (hline : (apos.endLine == cpos.line) = true := by rfl) (hs : starEach [b] X.env = (false, eval b X.env) :: starEach [] X.env := by rfl) (hplain : (backTo cpos (starEach [] X.env)).any (·.1) = false := by rfl) :
    ME X z (.Call (.Attribute a "count" apos) [b] [] cpos) (dCount da db) := by
  refine (pe_cnt hr ha hb hbase hfew hline hs hplain).imp fun σ H Q ⟨G, env, S, e, A, P⟩ => ?_
  subst e
  refine toE lwE A P fun p env1 S1 x G1 m1 A1 r1 P1 => ?_
  rw [← hK]
  cases p with
  | tup xs =>
    cases hi : intsOf xs with
    | none => simp only [hi] at P1; exact P1.elim
    | some ns =>
      simp only [hi] at P1
      cases r1 with
      | tup h rr =>
        have e := intsOf_rep hi rr
        subst e
        refine ⟨_, ns, rfl, h.nd, h.sq, ?_⟩
        refine toA lwE A1 P1 fun qs env2 S2 ws G2 m2 A2 r2 P2 => ?_
        match qs, r2, P2 with
        | [.int i], r2, P2 =>
          obtain ⟨u, rfl, ru⟩ := repL1 r2
          cases ru
          exact ⟨i, rfl, (h.mon m2).sq, P2 _ G2 (Mon.refl _) A2 (.int _)⟩
        | [], _, P2 => exact P2.elim
        | p :: _ :: _, _, P2 => cases p <;> exact P2.elim
        | [.non], _, P2 => exact P2.elim
        | [.bl _], _, P2 => exact P2.elim
        | [.str _], _, P2 => exact P2.elim
        | [.tup _], _, P2 => exact P2.elim
        | [.tuz _], _, P2 => exact P2.elim
        | [.lst _], _, P2 => exact P2.elim
        | [.scr _], _, P2 => exact P2.elim
        | [.ref _], _, P2 => exact P2.elim
        | [.raw _], _, P2 => exact P2.elim
        | [.dic _ _], _, P2 => exact P2.elim
  | _ => exact P1.elim
end
end FS
set_option Elab.async false
set_option linter.all false
set_option maxRecDepth 100000
set_option maxHeartbeats 2000000
/-! FsGen: sum and all of a generator expression whose element reads only. -/
namespace FS
open PySem PySem.Spec PyProof.Rows L2
open LamX (TabS Tabs ExtN CodeO TabB inv_table among_app)
open GxR (GenS)
/-! ### a new code object in a table -/
theorem At.tabN {K : PySem.W.Frag} {G0 G : Wd} {S : Stt} {env : Env} {σ : L2.St} {T : List (Addr × Str)} {H1 : Hp} (A : At K G0 G S env σ) (hT : G0.T = T) (ex : ExtN G.H H1) (hT1 : Tabs T H1) :
    Ent G ⟨G.m, G.fz, H1, G.T⟩ ∧ Mon G ⟨G.m, G.fz, H1, G.T⟩ ∧ At K G0 ⟨G.m, G.fz, H1, G.T⟩ S env σ := by
  have nu : ∀ b, Nu H1 b → Nu G.H b := fun b h => by
    cases e : G.H b with
    | none => exact .inl e
    | some o =>
      by_cases ho : ∃ ps, o = .tbl ps
      · obtain ⟨ps, rfl⟩ := ho
        exact .inr ⟨ps, e⟩
      · exact (h.no (ex b o e (fun ps q => ho ⟨ps, q⟩)) (fun ps q => ho ⟨ps, q⟩)).elim
  have gT : G.T = T := A.ent.T.trans hT
  have E1 : Ent G ⟨G.m, G.fz, H1, G.T⟩ := ⟨⟨[], by simp⟩, fun b h => .inl h, fun b h => h, fun b h => .inl h, fun b o h nt _ => ex b o h nt, nu, rfl, fun _ => by rw [gT]; exact hT1⟩
  have M1 : Mon G ⟨G.m, G.fz, H1, G.T⟩ := E1.mon A.sure A.st
  have S1 : RepS K ⟨G.m, G.fz, H1, G.T⟩ S := ⟨A.st.len, A.st.nd, A.st.nf, fun i b o h1 h2 => by
    have q := A.st.ob i b o h1 h2
    cases o with
    | dct lk kvs =>
      obtain ⟨vs, q1, q2⟩ := q
      cases lk with
      | false => exact ⟨vs, ex b _ q1 nt_dK, q2.mon M1⟩
      | true => obtain ⟨od, q1⟩ := q1; exact ⟨vs, ⟨od, ex b _ q1 nt_frz⟩, q2.mon M1⟩
    | ins c fs =>
      obtain ⟨C, dx, vs, q0, q1, q2⟩ := q
      exact ⟨C, dx, vs, q0, ex b _ q1 nt_ins, q2.mon M1⟩
    | lst xs =>
      obtain ⟨vs, q1, q2⟩ := q
      exact ⟨vs, ex b _ q1 nt_lst, q2.mon M1⟩⟩
  have su1 : Sure ⟨G.m, G.fz, H1, G.T⟩ := fun b h => by
    obtain ⟨o, q, nt⟩ := A.sure b h
    exact ⟨o, ex b o q nt, nt⟩
  exact ⟨E1, M1, A.call E1 M1 S1 su1⟩
/-! ### the element's frame -/
structure GEnv (X : Cx) (scope : Scope) (x : Str) (σ : L2.St) (H : Hp) (u : Value) (cenv : PySem.Env) (s : Shared) (m : Str → Option Value) : Prop where
  sc : cenv.scope = scope
  gl : cenv.globals = mainGlobals
  bl : cenv.builtins = builtinsNs
  ns : s.heap.Ns cenv.locals m
  it : m x = some u
  hok : HOk X.prog X.w H s.heap
  bk : ∀ b o, X.base.get? b = some o → s.heap.get? b = some o
  mod : Mod X.K X.mg X.base
  cap : ∀ (i : Nat) (y : Str) (w : V), X.N[i]? = some y → σ[i]? = some (some w) → scope.names.lookup y = some .free → ∃ v c, RelV w v ∧ cenv.cells.lookup y = some c ∧ s.heap.IsCell c (some v)
theorem GEnv.later {X : Cx} {scope : Scope} {x : Str} {σ : L2.St} {H : Hp} {u : Value} {cenv : PySem.Env} {s s' : Shared} {m : Str → Option Value} (g : GEnv X scope x σ H u cenv s m) (k : Keeps s s') : GEnv X scope x σ H u cenv s' m := by
  obtain ⟨h', tk, rfl, kp⟩ := k
  refine ⟨g.sc, g.gl, g.bl, g.ns.keeps kp, g.it, g.hok.kept kp, fun b o e => kp b o (g.bk b o e), g.mod, fun i y w h1 h2 h3 => ?_⟩
  obtain ⟨v, c, r, e, o, ho, hd⟩ := g.cap i y w h1 h2 h3
  exact ⟨v, c, r, e, o, kp _ _ ho, hd⟩
/-- an expression that reads only, in the generator's frame -/
def QE (X : Cx) (scope : Scope) (x : Str) (e : Expr) (q : Env → PV → Option PV) : Prop :=
  ∀ (G : Wd) (env : Env) (σ : L2.St) (p r : PV) (v : V) (u : Value), RepE X.K G env σ → Rep X.K G p v → RelV v u → q env p = some r →
    ∀ (A' : Around) (E' : Value → Shared → Prop) (cenv : PySem.Env) (s : Shared) (m : Str → Option Value), A'.handled = none → GEnv X scope x σ G.H u cenv s m →
      wpAny (model X.prog X.w) A' (eval e cenv) (fun y s' => (∃ w, RelV w y ∧ Rep X.K G r w) ∧ Keeps s s') E' s
section
variable {X : Cx} {scope : Scope} {x : Str} {pos p1 p2 p3 : Pos}
def qItem : Env → PV → Option PV := fun _ p => some p
theorem q_item (hk : scope.kind = .function := by rfl) (hl : scope.names.lookup x = some .local := by rfl) (hd : (x == ("__debug__" : Str)) = false := by decide) : QE X scope x (.Name x pos) qItem :=
  fun G env σ p r v u _ rp ru e A' E' cenv s m _ g => by
    cases e
    exact wpAny_Name (wpAny_loadName_local (by rw [g.sc]; exact hk) (show cenv.scope.names.lookup x = some .local by rw [g.sc]; exact hl) g.ns g.it ⟨⟨v, ru, rp⟩, GxR.keeps_refl _⟩) hd
def qVar (i : Nat) : Env → PV → Option PV := fun env _ => match env[i]? with
  | some (.val p) => some p
  | _ => none
theorem q_var (i : Nat) {y : Str} (hN : X.N[i]? = some y := by rfl) (hf : scope.names.lookup y = some .free := by rfl) (hk : scope.kind = .function := by rfl) (hd : (y == ("__debug__" : Str)) = false := by decide) (hcd : (y == ("__classdict__" : Str)) = false := by decide) :
    QE X scope x (.Name y pos) (qVar i) :=
  fun G env σ p r v u re rp ru e A' E' cenv s m _ g => by
    unfold qVar at e
    cases q : env[i]? with
    | none => rw [q] at e; cases e
    | some sl =>
      rw [q] at e
      cases sl with
      | val p' =>
        cases e
        obtain ⟨w, e1, r1⟩ := re.val i _ q
        obtain ⟨z, c, rz, e2, e3⟩ := g.cap i y w hN e1 hf
        exact wpAny_Name (wpAny_loadName_free (by rw [g.sc]; exact hk) (show cenv.scope.names.lookup y = some .free by rw [g.sc]; exact hf) e2 e3 ⟨⟨w, rz, r1⟩, GxR.keeps_refl _⟩ hcd) hd
      | none => cases e
      | own xs => cases e
      | exc a d w => cases e
theorem keeps_trans {s s1 s2 : Shared} (a : Keeps s s1) (b : Keeps s1 s2) : Keeps s s2 := by
  obtain ⟨h1, t1, rfl, k1⟩ := a
  obtain ⟨h2, t2, rfl, k2⟩ := b
  exact ⟨h2, t2, rfl, fun b o e => k2 b o (k1 b o e)⟩
/-- l[i] of a list, 0 ≤ i -/
def qIx (qa qb : Env → PV → Option PV) : Env → PV → Option PV := fun env p => match qa env p, qb env p with
  | some (.lst xs), some (.int i) => if 0 ≤ i ∧ i < 1000000 then xs[i.toNat]? else none
  | _, _ => none
theorem q_ix {a b : Expr} {qa qb : Env → PV → Option PV} (ha : QE X scope x a qa) (hb : QE X scope x b qb) (hs : PlainIx b := by exact fun _ _ => rfl) : QE X scope x (.Subscript a b pos) (qIx qa qb) :=
  fun G env σ p r v u re rp ru e A' E' cenv s m hh g => by
    unfold qIx at e
    cases e1 : qa env p with
    | none => rw [e1] at e; cases e
    | some l =>
      cases e2 : qb env p with
      | none => rw [e1, e2] at e; cases l <;> cases e
      | some j =>
        rw [e1, e2] at e
        cases l with
        | lst xs =>
          cases j with
          | int i =>
            replace e : (if 0 ≤ i ∧ i < 1000000 then xs[i.toNat]? else none) = some r := e
            by_cases hi : 0 ≤ i ∧ i < 1000000
            · rw [if_pos hi] at e
              refine Subscript_ (wpAny_mono (ha G env σ p _ v u re rp ru e1 A' E' cenv s m hh g) (fun y s1 ⟨⟨w, rw1, rr1⟩, k1⟩ => ?_) fun _ _ h => h)
              refine wpAny_mono (hb G env σ p _ v u re rp ru e2 A' E' cenv s1 m hh (g.later k1)) (fun y2 s2 ⟨⟨w2, rw2, rr2⟩, k2⟩ => ?_) fun _ _ h => h
              have g2 := (g.later k1).later k2
              obtain ⟨ad, vs, rfl, hq, rl⟩ := rr1.sqL
              cases rr2
              cases rw1
              obtain ⟨t, rfl⟩ := rw2
              obtain ⟨hz, its, n, rv, hg⟩ := g2.hok ad _ hq
              obtain ⟨w3, e3, r3⟩ := rl.get e
              obtain ⟨z3, e4, r4⟩ := rv.get e3
              have e63 : (2 : Int) ^ 63 = 9223372036854775808 := by decide
              exact item_listR (x := z3) (items := its.toArray) ⟨_, hg, rfl, _, rfl⟩ hi.1 (by rw [e63]; omega) (by simpa using e4) ⟨⟨w3, r4, r3⟩, keeps_trans k1 k2⟩ (hs _ _)
            · rw [if_neg hi] at e
              cases e
          | _ => cases e
        | _ => cases e
/-- the generator expression's own names -/
structure GS (sc scope : Scope) (x : Str) : Prop where
  kind : scope.kind = .function
  co : scope.isCoroutine = false
  cell : ∀ y ∈ scope.names, y.2 ≠ .cell
  dot : scope.names.lookup (".0" : Str) = some NameKind.local
  loc : scope.names.lookup x = some .local
  free : ∀ y ∈ scope.names, y.2 = .free → sc.names.lookup y.1 = some .cell ∨ sc.names.lookup y.1 = some .free
theorem GS.gen {X : Cx} {scope : Scope} {x : Str} (S : GS X.env.scope scope x) (ok : X.Ok) : GenS X.env scope x := ⟨S.kind, S.co, S.cell, S.dot, S.loc, fun y hy e => by
  rcases S.free y hy e with k | k
  · exact ok.has _ (.inl k)
  · exact ok.has _ (.inr k)⟩
theorem GS.vis {X : Cx} {scope : Scope} {x : Str} (S : GS X.env.scope scope x) {y : Str} (h : scope.names.lookup y = some .free) : X.env.scope.names.lookup y = some .cell ∨ X.env.scope.names.lookup y = some .free := S.free _ (PySem.mem_of_lookup h) rfl
theorem GS.cells {X : Cx} {scope : Scope} {x : Str} (S : GS X.env.scope scope x) (ok : X.Ok) {y : Str} {c : Addr} (h : scope.names.lookup y = some .free) (hc : X.env.cells.lookup y = some c) : (cloFrom X.env.cells scope.names []).lookup y = some c := by
  have hfree := (S.gen ok).free
  have cm : ∀ {y c}, (cloFrom X.env.cells scope.names []).lookup y = some c → X.env.cells.lookup y = some c := fun {y c} e => by
    rcases cloFrom_mem (PySem.mem_of_lookup e) with hm | ⟨h1, h2⟩
    · cases hm
    · obtain ⟨c1, hc⟩ := hfree _ h1 rfl
      have hc : X.env.cells.lookup y = some c1 := hc
      have e2 : c = c1 := by
        rw [h2, hc] <;> rfl
      rw [e2]
      exact hc
  have hy : (y, NameKind.free) ∈ scope.names := PySem.mem_of_lookup h
  obtain ⟨c2, e2⟩ := mem_lookup (cloFrom_has (cells := X.env.cells) (acc := []) hy)
  rw [e2, ← hc, cm e2]
/-- what is walked: a new iterator over it tells the items -/
def SrcOk (X : Cx) (G1 : Wd) (v : V) (ps : List PV) : Prop := ∀ (pins : List (Addr × Obj)) (σ : L2.St) (s1 : Shared) (u : Value), Inv X pins σ G1.H s1 → L2.RelV v u →
  ∃ (o : Obj) (fp : List Addr) (Pf : Nat → Value → Prop) (St : Nat → Heap → Prop),
    (∀ (Q : Value → Shared → Prop) (E : Value → Shared → Prop), Q (.ref s1.heap.objs.size) { s1 with heap := s1.heap.push o } → wpAny (model X.prog X.w) X.A (pyIter u) Q E s1) ∧
    (∀ A' : Around, A'.handled = none → Walks X.prog X.w A' s1.heap.objs.size fp [s1.heap.objs.size] ps.length Pf St) ∧ St 0 (s1.heap.push o) ∧
    (∀ b ∈ fp, b < s1.heap.objs.size + 1 ∧ ∀ ts, G1.H b ≠ some (.tbl ts)) ∧ (∀ i y, Pf i y → ∃ (p : PV) (w : V), ps[i]? = some p ∧ L2.RelV w y ∧ Rep X.K G1 p w)
/-- the generator, ready to be walked -/
def GReady (X : Cx) (pins : List (Addr × Obj)) (σ : L2.St) (G2 : Wd) (rs : List PV) (g : Addr) (s5 : Shared) : Prop :=
  ∃ (fp wr : List Addr) (Gr : Array GenState → Array GenState → Prop) (F : Nat → Value → Prop) (St : Nat → Shared → Prop),
    WalksS X.prog X.w X.A.in1 g fp wr Gr rs.length F St ∧ St 0 s5 ∧ (∀ b ∈ fp, b < s5.heap.objs.size) ∧
    (∀ j y, F j y → ∃ (r : PV) (w : V), rs[j]? = some r ∧ L2.RelV w y ∧ Rep X.K G2 r w) ∧ ∀ s', Moved wr Gr s5 s' → Inv X pins σ G2.H s'
theorem inv_gens {pins : List (Addr × Obj)} {σ : L2.St} {H : Hp} {h : Heap} {g g' : Array GenState} {d d' : Drawn} {t : Nat} {os : _} (J : Inv X pins σ H ⟨h, g, d, t, os⟩) (hg : AllBare g') : Inv X pins σ H ⟨h, g', d', t, os⟩ :=
  ⟨J.ok, J.os, hg, J.base, J.loc, J.cell, J.free, J.freeC, J.pin, J.hok, J.len⟩
theorem passing_all (n : Nat) : passing (fun _ => true) n 0 = List.range n := by
  unfold passing
  simp
theorem gen_run {T : List (Addr × Str)} {c P : Addr} {elt iter : Expr} {px gpos : Pos} {q : Env → PV → Option PV} {k : Nat} {Q' : Value → Shared → Prop} {pins : List (Addr × Obj)} {s1 : Shared} {σ : L2.St} {G0 G1 : Wd} {env1 : Env} {S1 : Stt} {v : V} {xv : Value} {ps rs : List PV}
    (hr : Room k X.A) (TB : TabB X.base X.mg c P) (hcode : X.env.code = .ref c) (S : GS X.env.scope scope x) (hmT : (P, X.env.qual ++ "<genexpr>") ∈ T) (hu : ∀ p ∈ T, p.1 = P → p.2 = X.env.qual ++ "<genexpr>") (hel : QE X scope x elt q)
    (I1 : Inv X pins σ G1.H s1) (A : At X.K G0 G1 S1 env1 σ) (hT0 : G0.T = T) (hT : Tabs T G1.H) (rx : L2.RelV v xv) (src : SrcOk X G1 v ps) (hlen : rs.length = ps.length) (hq : ∀ (i : Nat) (p : PV), ps[i]? = some p → ∃ r : PV, rs[i]? = some r ∧ q env1 p = some r)
    (hQ : ∀ (G2 : Wd) (g : Addr) (s5 : Shared), Mon G1 G2 → At X.K G0 G2 S1 env1 σ → GReady X pins σ G2 rs g s5 → Q' (.ref g) s5) :
    wpAny (model X.prog X.w) X.A (pyIter xv) (fun it s₂ => s₂.heap.NoLimit ∧
      wpAny (model X.prog X.w) X.A (genexprCode X.env gpos (X.env.qual ++ "<genexpr>") scope) (fun code s₃ => wpAny (model X.prog X.w) X.A (builtinsFor X.env.globals X.env.builtins) (fun bi s₄ =>
        ∃ I fp wr n₀ Pf St₀ pz F, it = .ref I ∧ (∀ A' : Around, A'.handled = none → Walks X.prog X.w A' I fp wr n₀ Pf St₀) ∧ St₀ 0 s₄.heap ∧ (∀ b ∈ fp, b < s₄.heap.objs.size) ∧ s₄.heap.NoLimit ∧ cStatics ∉ wr ∧
          (∀ href : Heap, (∀ b o, s₄.heap.get? b = some o → href.get? b = some o) →
            QuietGen X.prog X.w (genEnv scope (cloFrom X.env.cells scope.names []) s₄.heap.objs.size code bi X.env) x [] elt (List.range s₄.heap.objs.size) wr Pf pz F href) ∧
          (∀ a h₅ tk gs, gs.bare = true → s₄.heap.objs.size < a → h₅.objs.size = a + 1 → (∀ b o, s₄.heap.get? b = some o → h₅.get? b = some o) →
            WalksS X.prog X.w X.A.in4 a (a :: s₄.heap.objs.size :: List.range s₄.heap.objs.size) (s₄.heap.objs.size :: wr) (GenOnlyQ s₄.gens.size) (passing pz n₀ 0).length
              (fun j y => ∃ i, (passing pz n₀ 0)[j]? = some i ∧ F i y) (GenAt X.prog X.w X.A.in4 a s₄.gens.size s₄.heap.objs.size (List.range s₄.heap.objs.size) wr pz n₀ F) →
            GenAt X.prog X.w X.A.in4 a s₄.gens.size s₄.heap.objs.size (List.range s₄.heap.objs.size) wr pz n₀ F 0 { s₄ with gens := s₄.gens.push gs, toks := tk, heap := h₅ } →
            Q' (.ref a) { s₄ with gens := s₄.gens.push gs, toks := tk, heap := h₅ })) X.xe s₃) X.xe s₂) X.xe s1 := by
  obtain ⟨tabs, hP, ht, ha⟩ := hT _ hmT
  obtain ⟨o, fp, Pf, St, hit, W, hst, hfp, hPf⟩ := src pins σ s1 xv I1 rx
  refine hit _ _ ?_
  have hPs : s1.heap.get? P = some { cls := .none, data := .fields tabs } := I1.hok P _ hP
  have hPlt : P < s1.heap.objs.size := Heap.lt_size hPs
  have hP2 : (s1.heap.push o).get? P = some { cls := .none, data := .fields tabs } := Heap.get?_push_of_some _ hPs
  have cd : PySem.W.CodeHd (s1.heap.push o) c P := TB.code.keeps fun b u e => Heap.get?_push_of_some _ (I1.bk b u e)
  have lim2 : (s1.heap.push o).NoLimit := I1.nolimit.push o
  have bP : X.base.get? P = none := by
    cases e : X.base.get? P with
    | none => rfl
    | some ob => rw [(I1.bs P ob e).2] at hP; cases hP
  -- H2: the table has grown, the code object is known
  have cont : ∀ (code : Value) (h3 : Heap) (tk : Nat) (H2 : Hp), ExtN G1.H H2 → Tabs T H2 → (∀ (h' : Heap) (gs : Array GenState) (d : Drawn) (t : Nat), AllBare gs → (∀ b u, h3.get? b = some u → b ≠ s1.heap.objs.size → h'.get? b = some u) → Inv X pins σ H2 { s1 with heap := h', gens := gs, drawn := d, toks := t }) →
      (∀ b ob, b ≠ P → (s1.heap.push o).get? b = some ob → h3.get? b = some ob) → (s1.heap.push o).objs.size ≤ h3.objs.size →
      wpAny (model X.prog X.w) X.A (builtinsFor X.env.globals X.env.builtins) (fun bi s₄ =>
        ∃ I fp wr n₀ Pf St₀ pz F, Value.ref s1.heap.objs.size = .ref I ∧ (∀ A' : Around, A'.handled = none → Walks X.prog X.w A' I fp wr n₀ Pf St₀) ∧ St₀ 0 s₄.heap ∧ (∀ b ∈ fp, b < s₄.heap.objs.size) ∧ s₄.heap.NoLimit ∧ cStatics ∉ wr ∧
          (∀ href : Heap, (∀ b o, s₄.heap.get? b = some o → href.get? b = some o) →
            QuietGen X.prog X.w (genEnv scope (cloFrom X.env.cells scope.names []) s₄.heap.objs.size code bi X.env) x [] elt (List.range s₄.heap.objs.size) wr Pf pz F href) ∧
          (∀ a h₅ tk gs, gs.bare = true → s₄.heap.objs.size < a → h₅.objs.size = a + 1 → (∀ b o, s₄.heap.get? b = some o → h₅.get? b = some o) →
            WalksS X.prog X.w X.A.in4 a (a :: s₄.heap.objs.size :: List.range s₄.heap.objs.size) (s₄.heap.objs.size :: wr) (GenOnlyQ s₄.gens.size) (passing pz n₀ 0).length
              (fun j y => ∃ i, (passing pz n₀ 0)[j]? = some i ∧ F i y) (GenAt X.prog X.w X.A.in4 a s₄.gens.size s₄.heap.objs.size (List.range s₄.heap.objs.size) wr pz n₀ F) →
            GenAt X.prog X.w X.A.in4 a s₄.gens.size s₄.heap.objs.size (List.range s₄.heap.objs.size) wr pz n₀ F 0 { s₄ with gens := s₄.gens.push gs, toks := tk, heap := h₅ } →
            Q' (.ref a) { s₄ with gens := s₄.gens.push gs, toks := tk, heap := h₅ })) X.xe { s1 with heap := h3, toks := tk } := by
    intro code h3 tk H2 ex T2 inv hx hsz
    obtain ⟨bm, ob, e1, e2, e3, e4, e5, e6, e7, e8⟩ := TB.bm
    have hcP : cStatics ≠ P := fun e => by
      obtain ⟨_, hns, _⟩ := I1.nolimit
      obtain ⟨o', es, ep, ho, hd, _⟩ := hns
      rw [e, hPs] at ho
      cases ho
      cases hd
    have hcl : cStatics < s1.heap.objs.size := let ⟨_, hns, _⟩ := I1.nolimit; hns.lt
    have sz2 : (s1.heap.push o).objs.size = s1.heap.objs.size + 1 := Heap.size_push ..
    have keep3 : ∀ b u, b ≠ P → s1.heap.get? b = some u → h3.get? b = some u := fun b u hb e => hx b u hb (Heap.get?_push_of_some _ e)
    have hxb : Heap.ExtBut P (s1.heap.push o) h3 := fun b u hb e => hx b u hb e
    obtain ⟨E2, M2, A2⟩ := A.tabN hT0 ex T2
    refine wpAny_builtinsFor (m := X.mg) (by rw [I1.ok.glob]; exact ((I1.mod.glob.keeps I1.bk).push o).extBut hxb TB.gP) e1 e2 (keep3 _ _ e4 (I1.bk _ _ e5)) e6 e7 e8 ?_
    refine ⟨s1.heap.objs.size, fp, [s1.heap.objs.size], ps.length, Pf, St, (fun _ => true), (fun i y => ∃ (r : PV) (w : V), rs[i]? = some r ∧ L2.RelV w y ∧ Rep X.K ⟨G1.m, G1.fz, H2, G1.T⟩ r w), rfl, W, ?_, ?_, lim2.extBut hxb hcP, ?_, ?_, ?_⟩
    · refine (W X.A hr.hd).frame _ _ _ hst fun b hb u e => hx b u (fun z => ?_) e
      rw [z] at hb
      exact (hfp P hb).2 _ hP
    · intro b hb
      exact Nat.lt_of_lt_of_le (hfp b hb).1 (by rw [← sz2]; exact hsz)
    · intro z
      rcases List.mem_cons.mp z with z | z
      · exact Nat.ne_of_lt hcl z
      · cases z
    · intro href hhref
      refine ⟨fun A' E' i v s₂ m₂ hA hPv hn hm hk => ?_, fun A' E' i v s₂ m₂ hA hPv hp hn hm hk => ?_⟩
      · simp only [List.forIn_nil]
        exact wpAny_pure ⟨rfl, GxR.keeps_refl _⟩
      · obtain ⟨p, w, hp1, hw, rp⟩ := hPf i v hPv
        obtain ⟨r, hr1, hq1⟩ := hq i p hp1
        have kp : ∀ b u, b ≠ s1.heap.objs.size → h3.get? b = some u → s₂.heap.get? b = some u := fun b u hb e =>
          hk b (List.mem_range.mpr (Heap.lt_size e)) (by simpa using hb) u (hhref b u e)
        have J := inv s₂.heap s1.gens s1.drawn s1.toks I1.bare (fun b u e hb => kp b u hb e)
        refine wpAny_mono (hel ⟨G1.m, G1.fz, H2, G1.T⟩ env1 σ p r w v A2.en (rp.mon M2) hw hq1 A' E' _ s₂ m₂ hA ⟨rfl, I1.ok.glob, rfl, hn, hm, J.hok, J.bk, J.mod, fun i y w' h1 h2 h3 => ?_⟩) (fun y s3 r' => ⟨⟨r, r'.1.choose, hr1, r'.1.choose_spec.1, r'.1.choose_spec.2⟩, r'.2⟩) fun _ _ e => e
        obtain ⟨mm, hnn, hl⟩ := J.loc
        obtain ⟨u', ru', l⟩ := hl i y w' h1 h2 (.inr (S.vis h3))
        rcases l with ⟨kk, _⟩ | ⟨kk, c1, hc1, hcell⟩
        · have kk : X.env.scope.names.lookup y = some .local := kk
          rcases S.vis h3 with z | z <;> rw [z] at kk <;> cases kk
        · exact ⟨u', c1, ru', S.cells I1.ok h3 hc1, hcell⟩
    · intro g h5 tk5 gs hgb hag hsz5 hk5 W5 hat
      simp only [passing_all, List.length_range] at W5
      refine hQ ⟨G1.m, G1.fz, H2, G1.T⟩ g _ M2 A2 ⟨_, _, _, _, _, by rw [hlen]; exact W5.in4_1, hat, fun b hb => ?_, fun j y hy => ?_, fun s' hm => ?_⟩
      · show b < h5.objs.size
        have h9 : h3.objs.size < g := hag
        rw [hsz5]
        rcases List.mem_cons.mp hb with z | hb
        · rw [z]
          exact Nat.lt_succ_self _
        · rcases List.mem_cons.mp hb with z | hb
          · rw [z]
            exact Nat.lt_succ_of_lt h9
          · have h8 : b < h3.objs.size := List.mem_range.mp hb
            exact Nat.lt_succ_of_lt (Nat.lt_trans h8 h9)
      · obtain ⟨i, hij, hF⟩ := hy
        obtain ⟨hj, ej⟩ := List.getElem?_eq_some_iff.mp hij
        rw [List.getElem_range] at ej
        subst ej
        exact hF
      · have J := inv s'.heap s'.gens s'.drawn s'.toks (AllBare.movedS (I1.bare.push hgb) hm) (fun b u e hb => hm.heap b u (fun hw => ?_) (hk5 b u e))
        · rw [GxR.sh_eta s1 s' hm.os] at J
          exact J
        · have hl := Heap.lt_size e
          rcases List.mem_cons.mp hw with z | z
          · have z' : b = h3.objs.size := z
            rw [z'] at hl
            exact Nat.lt_irrefl _ hl
          · exact hb (by simpa using z)
  refine ⟨lim2, ?_⟩
  cases hf : codeAmong gpos tabs.toList with
  | none =>
    refine wpAny_genexprCodeX hcode (cd.code hP2 ht) (cd.tab hP2) hf fun c' h' tk hx hge hlt hco' hrec htab' _ => ?_
    obtain ⟨c2, oc, vs, t, e2, hoc, hd, hv⟩ := hrec
    cases e2
    have hsz1 : (s1.heap.push o).objs.size = s1.heap.objs.size + 1 := Heap.size_push ..
    have hc1 : s1.heap.objs.size ≤ c' := Nat.le_trans (by rw [hsz1]; exact Nat.le_succ _) hge
    have nC : G1.H c' = none := I1.hok.fresh hc1
    have hne : c' ≠ s1.heap.objs.size := by
      rw [hsz1] at hge
      exact Nat.ne_of_gt hge
    have hPo : P ≠ s1.heap.objs.size := Nat.ne_of_lt hPlt
    have hE : ExtN G1.H (upd (upd G1.H P (.tbl (tabs ++ #[rawInt gpos.line, rawInt gpos.col, .ref c']))) c' (CodeO c' (X.env.qual ++ "<genexpr>"))) := fun b o e n => by
      rw [upd_ne (ne_of_none e nC), upd_ne (fun z => n tabs (Option.some.inj (e.symm.trans (by rw [z]; exact hP))))]
      exact e
    have eL : (tabs ++ #[rawInt gpos.line, rawInt gpos.col, .ref c']).toList = tabs.toList ++ [rawInt gpos.line, rawInt gpos.col, .ref c'] := by simp
    refine cont (.ref c') h' tk _ hE (fun p hp => ?_) (fun h'' gs d t' hg hk => ?_) (fun b ob hb e => hx b ob hb e) (Nat.le_trans hge (Nat.le_of_lt hlt))
    · by_cases hb : p.1 = P
      · rw [hu p hp hb, hb]
        refine ⟨_, by rw [upd_ne (ne_of_none hP nC), upd_same], by rw [eL]; exact PySem.TriplesOk_snoc _ _ _ _ ht, fun p' cv hcv => ?_⟩
        rw [eL] at hcv
        rcases among_app _ ht hcv with z | z
        · obtain ⟨c0, e1, e2⟩ := ha p' cv z
          exact ⟨c0, e1, hE _ _ e2 LamX.codeO_ne⟩
        · exact ⟨c', z, upd_same⟩
      · obtain ⟨ps', a1, a2, a3⟩ := hT p hp
        refine ⟨ps', by rw [upd_ne (ne_of_none a1 nC), upd_ne hb]; exact a1, a2, fun p' cv hcv => ?_⟩
        obtain ⟨c0, e1, e2⟩ := a3 p' cv hcv
        exact ⟨c0, e1, hE _ _ e2 LamX.codeO_ne⟩
    · have hG : AllBare gs := hg
      have J := inv_table (t' := t') (more := #[rawInt gpos.line, rawInt gpos.col, .ref c']) (h' := h'') I1 hP
        (fun b u hb e => hk b u (hx b u hb (Heap.get?_push_of_some _ e)) (fun z => by
          have hl := Heap.lt_size e
          rw [z] at hl
          exact Nat.lt_irrefl _ hl)) (hk P _ htab'.2 hPo) hc1 ⟨oc, vs, t, hk c' _ hoc hne, hd, hv⟩
      exact inv_gens J hG
  | some cv =>
    obtain ⟨c', e, hco⟩ := ha gpos cv hf
    subst e
    refine wpAny_genexprCode_hit hcode (cd.code hP2 ht) hf ?_
    refine cont (.ref c') (s1.heap.push o) s1.toks G1.H (ExtN.refl _) hT (fun h'' gs d t' hg hk => ?_) (fun b ob _ e => e) (Nat.le_refl _)
    have J : Inv X pins σ G1.H { s1 with heap := h'', toks := t' } := I1.kept (fun b u e => hk b u (Heap.get?_push_of_some _ e) (fun z => by
          have hl := Heap.lt_size e
          rw [z] at hl
          exact Nat.lt_irrefl _ hl))
    exact inv_gens J hg
end
end FS
set_option Elab.async false
set_option linter.all false
set_option maxRecDepth 100000
set_option maxHeartbeats 2000000
/-! FsGen2: what a generator expression walks; sum, all. -/
namespace FS
open PySem PySem.Spec PyProof.Rows L2
open LamX (TabS Tabs ExtN CodeO TabB)
section
variable {X : Cx} {z : Zx} {pos p1 p2 p3 : Pos}
theorem src_rng {G1 : Wd} {a : Addr} {n : Int} (h : G1.H a = some (.rng 0 n)) (hs : Builtin.Range.small 0 n 1 = true) : SrcOk X G1 (.ref a) ((List.range n.toNat).map fun (i : Nat) => PV.int i) := by
  intro pins σ s1 u I ru
  obtain rfl : u = Value.ref a := ru
  obtain ⟨t, u1, v1, ho⟩ := I.hok a _ h
  refine ⟨_, [s1.heap.objs.size], fun i v => i < n.toNat ∧ ∃ t, v = .int (0 + i * 1) t, fun i h => IsRangeIter h s1.heap.objs.size (0 + (i : Nat) * 1) (((n.toNat : Nat) : Int) - (i : Nat)) 1, fun Q E q => wpAny_pyIter_range ho hs q, fun A' hA => by
    rw [List.length_map, List.length_range]
    exact (Walks.range hA _ 0 1 n.toNat).bound, ?_, fun b hb => ?_, fun i y hy => ?_⟩
  · have e : Builtin.Range.rangeSize 0 n 1 = ((n.toNat : Nat) : Int) := by rw [rangeSize_nat, Int.sub_zero]
    show IsRangeIter _ _ _ _ _
    rw [e]
    simpa using Heap.get?_push_size _ rfl
  · obtain rfl : b = s1.heap.objs.size := by simpa using hb
    refine ⟨Nat.lt_succ_self _, fun ts e => ?_⟩
    rw [I.hok.fresh (Nat.le_refl _)] at e
    cases e
  · obtain ⟨hi, t', rfl⟩ := hy
    refine ⟨.int i, .int i, by rw [List.getElem?_map, List.getElem?_range hi]; rfl, ⟨t', by simp⟩, .int _⟩
/-! ### the source's denotation -/
def PostR (X : Cx) (z : Zx) (G : Wd) (σ : L2.St) (Q : VK) : Out (List PV) → Prop
  | .ok ps env S => ∀ (v : V) (G' : Wd), Mon G G' → At z.K z.G0 G' S env σ → SrcOk X G' v ps → Q v G'.H
  | .raise c w env S => ∀ σ', PRaise z G c w env S σ'
  | .bad => False
theorem PostR.later {G G1 : Wd} {σ : L2.St} {Q : VK} {o : Out (List PV)} (h : PostR X z G σ Q o) (M : Mon G G1) : PostR X z G1 σ Q o := by
  cases o with
  | ok p env S => exact fun v G' m a r => h v G' (M.trans m) a r
  | raise c w env S => exact fun σ' => (h σ').later M
  | bad => exact h
theorem lwR {σ : L2.St} {Q : VK} : Lw z (fun G o => PostR X z G σ Q o) := ⟨fun _ _ _ h m => h.later m, fun _ _ _ _ _ h => h, fun _ h => h⟩
def RR (X : Cx) (z : Zx) (d : Cd (List PV)) : TE := fun σ H Q => ∃ G env S, G.H = H ∧ At z.K z.G0 G S env σ ∧ PostR X z G σ Q (d env S)
abbrev MR (X : Cx) (z : Zx) (e : Expr) (d : Cd (List PV)) : Prop := PE X e (RR X z d)
theorem cr_range1 : CallR X (.type "range") (fun vs H Q => ∃ i, vs = [V.int i] ∧ ∀ p, H p = none → Q (.ref p) (upd H p (.rng 0 i))) := by
  intro pins s σ H vs us Q I r h
  obtain ⟨i, rfl, q⟩ := h
  obtain ⟨u1, rfl, ri⟩ := vals1 r
  obtain ⟨t, rfl⟩ := ri
  refine call_range_1 ⟨.ref s.heap.objs.size, upd H s.heap.objs.size (.rng 0 i), I.laid (t' := s.toks + 1 + 1) (fun b o e => Heap.get?_push_of_some _ e) (Nat.le_refl _) ?_, rfl, q _ (I.hok.fresh (Nat.le_refl _))⟩
  exact ⟨s.toks, t, s.toks + 1, Heap.get?_push_size _ rfl⟩
theorem okR_small {i : Int} (h : okR i = true) : Builtin.Range.small 0 i 1 = true := by
  obtain ⟨h1, h2⟩ := okR_b h
  exact small_one (by decide) (by decide) h1 h2
theorem mr_rng1 {e : Expr} {da : Cd (List PV)} (hm : X.mg "range" = none) (ha : MA X z [e] da) (hg : Gl X "range" := by rfl) (he : starEach [e] X.env = (false, eval e X.env) :: starEach [] X.env := by rfl) (hpl : (backTo pos (starEach [] X.env)).any (·.1) = false := by rfl) :
    MR X z (.Call (.Name "range" p1) [e] [] pos) (dRng1 da) := by
  refine PE.imp (pe_callTy (T := "range") cr_range1 hg hm (by decide +kernel) ha (by decide) (by decide) he hpl) fun σ H Q ⟨G, env, S, e, A, P⟩ => ?_
  subst e
  refine toA (lwR (X := X)) A P fun ps env1 S1 vs G1 m1 A1 r1 P1 => ?_
  match ps, r1, P1 with
  | [.int i], r1, P1 =>
    obtain ⟨u, rfl, ru⟩ := repL1 r1
    cases ru
    refine ⟨i, rfl, fun p hn => ?_⟩
    by_cases hj : okR i = true
    · simp only [rng1, if_pos hj, lift] at P1
      have M : Mon G1 (G1.frozen p (.rng 0 i)) := (Ext.frozen hn).mon A1.sure
      exact P1 _ (G1.frozen p (.rng 0 i)) M (A1.frozen hn) (src_rng upd_same (okR_small hj))
    · simp only [rng1, if_neg hj, lift] at P1
      exact P1.elim
  | [], _, P1 => exact P1.elim
  | p :: _ :: _, _, P1 => cases p <;> exact P1.elim
  | [.non], _, P1 => exact P1.elim
  | [.bl _], _, P1 => exact P1.elim
  | [.str _], _, P1 => exact P1.elim
  | [.tup _], _, P1 => exact P1.elim
  | [.tuz _], _, P1 => exact P1.elim
  | [.lst _], _, P1 => exact P1.elim
  | [.scr _], _, P1 => exact P1.elim
  | [.ref _], _, P1 => exact P1.elim
  | [.raw _], _, P1 => exact P1.elim
  | [.dic _ _], _, P1 => exact P1.elim
/-! ### sum, all -/
def qMap (q : Env → PV → Option PV) (env : Env) : List PV → Option (List PV)
  | [] => some []
  | p :: ps => match q env p, qMap q env ps with
    | some r, some rs => some (r :: rs)
    | _, _ => none
theorem qMap_get {q : Env → PV → Option PV} {env : Env} : ∀ {ps rs : List PV}, qMap q env ps = some rs → rs.length = ps.length ∧ ∀ (i : Nat) (p : PV), ps[i]? = some p → ∃ r, rs[i]? = some r ∧ q env p = some r
  | [], rs, h => by
    cases h
    exact ⟨rfl, fun i p h => by simp at h⟩
  | p :: ps, rs, h => by
    unfold qMap at h
    cases e1 : q env p with
    | none => rw [e1] at h; cases h
    | some r =>
      cases e2 : qMap q env ps with
      | none => rw [e1, e2] at h; cases h
      | some rs' =>
        rw [e1, e2] at h
        cases h
        obtain ⟨h1, h2⟩ := qMap_get e2
        refine ⟨by rw [List.length_cons, List.length_cons, h1], fun i p' hp => ?_⟩
        cases i with
        | zero =>
          simp at hp
          subst hp
          exact ⟨r, rfl, e1⟩
        | succ i =>
          obtain ⟨r', h3, h4⟩ := h2 i p' (by simpa using hp)
          exact ⟨r', by simpa using h3, h4⟩
def blsOf : List PV → Option (List Bool)
  | [] => some []
  | .bl b :: xs => (blsOf xs).map (b :: ·)
  | _ :: _ => none
theorem intsOf_inj : ∀ {xs : List PV} {ns : List Int}, intsOf xs = some ns → xs = ns.map PV.int
  | [], bs, h => by cases h; rfl
  | .int b :: xs, bs, h => by
    unfold intsOf at h
    cases e : intsOf xs with
    | none => rw [e] at h; cases h
    | some ys =>
      rw [e] at h
      cases h
      rw [intsOf_inj e]
      rfl
  | .non :: xs, bs, e => by cases e
  | .bl _ :: xs, bs, e => by cases e
  | .str _ :: xs, bs, e => by cases e
  | .tup _ :: xs, bs, e => by cases e
  | .tuz _ :: xs, bs, e => by cases e
  | .lst _ :: xs, bs, e => by cases e
  | .scr _ :: xs, bs, e => by cases e
  | .ref _ :: xs, bs, e => by cases e
  | .raw _ :: xs, bs, e => by cases e
  | .dic _ _ :: xs, bs, e => by cases e
/-- small numbers, few of them -/
def few (ns : List Int) : Bool := ns.all (fun n => decide (0 ≤ n) && decide (n ≤ 1048576)) && decide (ns.length ≤ 1048576)
def dSumG (d : Cd (List PV)) (q : Env → PV → Option PV) : Cd PV := bnd d fun ps => fun e s => match (qMap q e ps).bind intsOf with
  | some ns => if few ns = true then .ok (.int ns.sum) e s else .bad
  | none => .bad
def dAllG (d : Cd (List PV)) (q : Env → PV → Option PV) : Cd PV := bnd d fun ps => fun e s => match (qMap q e ps).bind blsOf with
  | some bs => .ok (.bl (bs.all id)) e s
  | none => .bad
theorem preSum_take (ns : List Int) : ∀ j, j ≤ ns.length → preSum (fun i => ns.getD i 0) j = (ns.take j).sum
  | 0, _ => rfl
  | j + 1, h => by
    have hj : j < ns.length := h
    show preSum (fun i => ns.getD i 0) j + ns.getD j 0 = _
    rw [preSum_take ns j (Nat.le_of_lt hj), List.take_succ, List.getElem?_eq_getElem hj, List.sum_append, List.getD_eq_getElem?_getD, List.getElem?_eq_getElem hj]
    simp
theorem few_sum : ∀ (ns : List Int) (j : Nat), (∀ n ∈ ns, 0 ≤ n ∧ n ≤ 1048576) → j ≤ ns.length → 0 ≤ (ns.take j).sum ∧ (ns.take j).sum ≤ j * 1048576
  | _, 0, _, _ => by simp
  | [], j + 1, _, h => by simp at h
  | n :: ns, j + 1, hn, h => by
    obtain ⟨h1, h2⟩ := few_sum ns j (fun m hm => hn m (List.mem_cons_of_mem _ hm)) (by simpa using h)
    obtain ⟨h3, h4⟩ := hn n List.mem_cons_self
    rw [List.take_succ_cons, List.sum_cons]
    push_cast
    omega
variable {T : List (Addr × Str)} {c P : Addr} {elt iter : Expr} {px gpos : Pos} {scope : Scope} {x : Str} {q : Env → PV → Option PV} {d : Cd (List PV)} {k : Nat}
theorem me_sumG (hT : z.G0.T = T ∧ Tabs T z.G0.H) (hmT : (P, X.env.qual ++ "<genexpr>") ∈ T) (hu : ∀ p ∈ T, p.1 = P → p.2 = X.env.qual ++ "<genexpr>") (TB : TabB X.base X.mg c P) (hr : Room k X.A) (hm : X.mg "sum" = none) (S : GS X.env.scope scope x) (hi : MR X z iter d) (hel : QE X scope x elt q)
    (hK : z.K = X.K := by rfl) (hcode : X.env.code = .ref c := by rfl) (hg : Gl X "sum" := by rfl) (hs : ∀ v, genFold iter X.env v = pure v := by intro _; rfl)
    (he : starEach [.GeneratorExp elt [⟨.Name x px, iter, [], 0⟩] scope gpos] X.env = (false, eval (.GeneratorExp elt [⟨.Name x px, iter, [], 0⟩] scope gpos) X.env) :: starEach [] X.env := by rfl) :
    ME X z (.Call (.Name "sum" p1) [.GeneratorExp elt [⟨.Name x px, iter, [], 0⟩] scope gpos] [] pos) (dSumG d q) := by
  refine ⟨fun pins s σ H Q I ⟨G, env, S0, e, A, P0⟩ => ?_⟩
  subst e
  refine wpAny_Call_Name_kw (ld_blt (u := .builtin "sum") I hg hm (by decide +kernel) ?_)
  refine PyProof.Rows.callWith_builtin1 ?_ he (by rfl)
  rw [he]
  show wpAny _ _ (spliced ((false, eval (.GeneratorExp elt [⟨.Name x px, iter, [], 0⟩] scope gpos) X.env) :: backTo pos (starEach [] X.env))) _ _ s
  refine Calls.spliced_cons ?_
  refine wpAny_GeneratorExp_walksQ hr.hd S.co (closure_ok (S.gen I.ok).free) S.cell S.dot S.loc S.kind (by have := hr.dp; omega) ?_ hs
  have P' : RR X z d σ G.H (fun v H1 => ∃ (G1 : Wd) (env1 : Env) (S1 : Stt) (ps : List PV) (ns : List Int), G1.H = H1 ∧ Mon G G1 ∧ At z.K z.G0 G1 S1 env1 σ ∧ SrcOk X G1 v ps ∧ qMap q env1 ps = some (ns.map PV.int) ∧ few ns = true ∧
      ∀ (v : V) (G' : Wd), Mon G1 G' → At z.K z.G0 G' S1 env1 σ → Rep z.K G' (.int ns.sum) v → Q v G'.H) := by
    refine ⟨G, env, S0, rfl, A, ?_⟩
    unfold dSumG bnd at P0
    cases e : d env S0 with
    | bad => rw [e] at P0; exact P0.elim
    | raise cc w e1 s1 => rw [e] at P0; exact P0
    | ok ps e1 s1 =>
      rw [e] at P0
      have P1 : Post z G σ Q (match (qMap q e1 ps).bind intsOf with
        | some ns => if few ns = true then .ok (.int ns.sum) e1 s1 else .bad
        | none => .bad) := P0
      cases e2 : qMap q e1 ps with
      | none => rw [e2] at P1; exact P1.elim
      | some rs =>
        rw [e2, Option.bind_some] at P1
        cases e3 : intsOf rs with
        | none => rw [e3] at P1; exact P1.elim
        | some ns =>
          rw [e3] at P1
          by_cases hf : few ns = true
          · have P2 : Post z G σ Q (.ok (.int ns.sum) e1 s1) := by
              simpa only [if_pos hf] using P1
            exact fun v G1 m1 A1 src => ⟨G1, e1, s1, ps, ns, rfl, m1, A1, src, by rw [e2, intsOf_inj e3], hf, fun v G' m a r => P2 v G' (m1.trans m) a r⟩
          · simp only [if_neg hf] at P1
            exact P1.elim
  refine thn (hi.run pins s σ G.H _ I P') fun xv s1 ⟨v, H1, I1, r1, G1, env1, S1, ps, ns, e1, M1, A1, src, hq, hf, hQ⟩ => ?_
  subst e1
  obtain ⟨hl, hget⟩ := qMap_get hq
  have hT1 : Tabs T G1.H := by
    have w := A1.ent.tb (by rw [hT.1]; exact hT.2)
    rw [hT.1] at w
    exact w
  refine gen_run (iter := iter) (px := px) (gpos := gpos) (Q' := fun u s5 => wpAny (model X.prog X.w) X.A (spliced (backTo pos (starEach [] X.env))) (fun vs s₂ => wpAny (model X.prog X.w) X.A (call (Value.builtin "sum") (u :: vs)) (EP X pins σ Q) X.xe s₂) X.xe s5) hr TB hcode S hmT hu hel I1 (by rw [← hK]; exact A1) hT.1 hT1 r1 src hl hget fun G2 g s5 M2 A2 RD => ?_
  obtain ⟨fp, wr, Gr, F, St, W, hst, hfp, hF, hI⟩ := RD
  refine Calls.spliced_nil ?_
  have hin : ∀ i w, F i w → ∃ t, w = .int (ns.getD i 0) t := fun i w hw => by
    obtain ⟨r, u, h1, h2, h3⟩ := hF i w hw
    rw [List.getElem?_map] at h1
    cases e : ns[i]? with
    | none => rw [e] at h1; cases h1
    | some n =>
      rw [e] at h1
      cases h1
      cases h3
      obtain ⟨t, rfl⟩ := h2
      exact ⟨t, by rw [List.getD_eq_getElem?_getD, e]; rfl⟩
  unfold few at hf
  rw [Bool.and_eq_true, List.all_eq_true] at hf
  have hn : ∀ n ∈ ns, 0 ≤ n ∧ n ≤ 1048576 := fun n hn => by
    have := hf.1 n hn
    rw [Bool.and_eq_true] at this
    exact ⟨of_decide_eq_true this.1, of_decide_eq_true this.2⟩
  have hlen : ns.length ≤ 1048576 := of_decide_eq_true hf.2
  rw [List.length_map] at W
  have e63 : (2 : Int) ^ 63 = 9223372036854775808 := by decide
  refine call_sum_walkS (W.self 0 _ _ _ hst ⟨g, fp, wr, Gr, _, F, St, fun i => ns.getD i 0, rfl, W, hst, hfp, hin, fun j hj => ?_, fun s' t' hmv => ?_⟩)
  · obtain ⟨a1, a2⟩ := few_sum ns (j + 1) hn hj
    have a3 : ns.getD j 0 = ns[j] := by rw [List.getD_eq_getElem?_getD, List.getElem?_eq_getElem hj]; rfl
    obtain ⟨a4, a5⟩ := hn ns[j] (List.getElem_mem hj)
    refine ⟨?_, ?_⟩
    · show -(2 ^ 63) ≤ ns.getD j 0 ∧ ns.getD j 0 < 2 ^ 63
      rw [a3, e63]
      omega
    · rw [preSum_take ns _ hj]
      show -(2 ^ 63) ≤ (ns.take (j + 1)).sum ∧ (ns.take (j + 1)).sum < (2 : Int) ^ 63
      rw [e63]
      omega
  · have J := hI s' hmv
    rw [preSum_take ns _ (Nat.le_refl _), List.take_length]
    exact ⟨.int ns.sum, G2.H, J, ⟨t', rfl⟩, hQ _ G2 M2 (by rw [hK]; exact A2) (.int _)⟩
end
end FS
set_option Elab.async false
set_option linter.all false
set_option maxRecDepth 100000
set_option maxHeartbeats 2000000
/-! FsGen3: min, max of a list or a tuple of ints; the same within generator expressions. -/
namespace FS
open PySem PySem.Spec PyProof PyProof.Rows L2
section
variable {prog : Program} {w : World} {A : Around} {E : Value → Shared → Prop} {s : Shared} {t : Addr} {its : List Value} {ns : List Int} {Q : Value → Shared → Prop}
theorem min_tupG {xs : Array (Int × Tok)} (hh : A.handled = none) (ht : s.heap.IsTuple t (intItems xs)) (hne : 0 < xs.size)
    (h : ∀ v h' tk, (intItems xs)[argBest (fun i j => decide (numAt xs i < numAt xs j)) (xs.size - 1)]? = some v → (∀ b o, s.heap.get? b = some o → h'.get? b = some o) → Q v { s with heap := h', toks := tk }) :
    wpAny (model prog w) A (call (.builtin "min") [.ref t]) Q E s := by
  obtain ⟨o, ho, hc, n, hd⟩ := id ht
  have hn : t ≠ s.heap.objs.size := Nat.ne_of_lt (Heap.lt_size ho)
  have hsz : (intItems xs).size = xs.size := by simp [intItems]
  have W := (Walks.tuple (prog := prog) (w := w) (A := A.in1) hh s.heap.objs.size t hn (intItems xs)).toS
  rw [hsz] at W
  refine call_min_walkS (wpAny_pyIter_tuple ht ?_)
  refine ⟨s.heap.objs.size, _, _, _, _, _, _, fun i j => decide (numAt xs i < numAt xs j), rfl, W, ⟨⟨_, Heap.get?_push_size _ rfl, rfl, rfl⟩, ht.at fun o e => Heap.get?_push_of_some _ e⟩, fun b hb => ?_, hne, CmpOf.ints_lt (numAt xs) (fun _ _ => intItems_at), fun v s' hP hm => ?_⟩
  · rcases List.mem_cons.mp hb with rfl | hb
    · exact Heap.lt_size (Heap.get?_push_size _ rfl)
    · obtain rfl := List.mem_singleton.mp hb
      exact Heap.lt_size (Heap.get?_push_of_some _ ho)
  · obtain ⟨h', g', d', tk', os'⟩ := s'
    have e1 : g' = s.gens := hm.gens
    have e2 : d' = s.drawn := hm.drawn
    have e3 : os' = s.os := hm.os
    subst e1 e2 e3
    exact h v h' tk' hP fun b o e => hm.heap b o (fun hb => absurd (Heap.lt_size e) ((List.mem_singleton.mp hb) ▸ Nat.lt_irrefl _)) (Heap.get?_push_of_some _ e)
theorem min_rawT (hh : A.handled = none) (hl : s.heap.IsTuple t its.toArray) (hi : IntsAre its ns) (hne : 0 < ns.length)
    (h : ∀ h' tk M t', (∀ b o, s.heap.get? b = some o → h'.get? b = some o) → M ∈ ns → (∀ a, a ∈ ns → M ≤ a) → Q (.int M t') { s with heap := h', toks := tk }) : wpAny (model prog w) A (call (.builtin "min") [.ref t]) Q E s := by
  obtain ⟨xs, e⟩ := hi.allInts.items
  have hn : numsOf (intItems xs).toList = ns := by rw [← e]; exact hi.numsOf
  rw [nums_intItems] at hn
  subst hn
  rw [e] at hl
  have hsz : 0 < xs.size := by simpa using hne
  refine min_tupG hh hl hsz fun v h' tk hv hk => ?_
  obtain ⟨t, rfl⟩ := intItems_at hv
  obtain ⟨h1, h2⟩ := argBest_lt (numAt xs) (xs.size - 1)
  refine h h' tk _ t hk ?_ fun a ha => ?_
  · rw [numAt_eq]; exact PySem.getD_mem (by rw [List.length_map, Array.length_toList]; omega)
  · obtain ⟨j, hj, rfl⟩ := mem_getD ha
    rw [List.length_map, Array.length_toList] at hj
    rw [← numAt_eq]; exact h2 j (by omega)
end
/-! ### the least, the greatest -/
def minL : Int → List Int → Int
  | a, [] => a
  | a, b :: r => minL (if b < a then b else a) r
theorem minL_mem : ∀ (r : List Int) (a : Int), minL a r ∈ a :: r
  | [], a => by simp [minL]
  | b :: r, a => by
    have h := minL_mem r (if b < a then b else a)
    unfold minL
    split at h <;> rename_i hc
    · rw [if_pos hc]
      exact List.mem_cons_of_mem _ h
    · rw [if_neg hc]
      rcases List.mem_cons.mp h with e | h
      · rw [e]; exact List.mem_cons_self
      · exact List.mem_cons_of_mem _ (List.mem_cons_of_mem _ h)
theorem minL_le : ∀ (r : List Int) (a : Int), ∀ y ∈ a :: r, minL a r ≤ y
  | [], a, y, h => by
    obtain rfl : y = a := by simpa using h
    exact Int.le_refl _
  | b :: r, a, y, h => by
    have h1 := minL_le r (if b < a then b else a)
    have h0 := h1 _ List.mem_cons_self
    unfold minL
    rcases List.mem_cons.mp h with e | h
    · rw [e]
      split at h0 <;> split <;> omega
    · rcases List.mem_cons.mp h with e | h
      · rw [e]
        split at h0 <;> split <;> omega
      · exact h1 y (List.mem_cons_of_mem _ h)
theorem minL_eq {a m : Int} {r : List Int} (h1 : m ∈ a :: r) (h2 : ∀ y ∈ a :: r, m ≤ y) : m = minL a r := Int.le_antisymm (h2 _ (minL_mem r a)) (minL_le r a m h1)
def itemsI : PV → Option (List Int)
  | .lst xs => intsOf xs
  | .tup xs => intsOf xs
  | _ => none
def fMinL (_ : Stt) (ps : List PV) : Option PV := match ps with
  | [p] => match itemsI p with
    | some (a :: r) => some (.int (minL a r))
    | _ => none
  | _ => none
def rBest (K : PySem.W.Frag) (le : Int → Int → Prop) : List V → Hp → VK → Prop := fun vs H Q => ∃ (a : Addr) (ns : List Int), vs = [V.ref a] ∧ (SqL K H a (ns.map V.int) ∨ SqT K H a (ns.map V.int)) ∧ 0 < ns.length ∧ ∀ m, m ∈ ns → (∀ y, y ∈ ns → le m y) → Q (.int m) H
section
variable {X : Cx} {z : Zx} {pos p1 : Pos}
theorem cr_minA (hc : X.calm = true) : CallR X (.builtin "min") (rBest X.K (· ≤ ·)) := by
  intro pins s σ H vs us Q I r ⟨a, ns, e, hs, hne, q⟩
  subst e
  rcases hs with hs | hs
  · exact cr_min hc pins s σ H _ us Q I r ⟨a, ns, rfl, hs, hne, q⟩
  · obtain ⟨its, rv, hl, _⟩ := I.tuple hs
    rw [Vals.ref1 r]
    exact min_rawT (I.ok.hd hc) hl rv.ints hne fun h' tk m t' hk h1 h2 => ⟨.int _, H, I.kept hk, ⟨_, rfl⟩, q m h1 h2⟩
theorem itemsI_rep {K : PySem.W.Frag} {G : Wd} {p : PV} {ns : List Int} {v : V} (h : itemsI p = some ns) (r : Rep K G p v) : ∃ a, v = .ref a ∧ (SqL K G.H a (ns.map V.int) ∨ SqT K G.H a (ns.map V.int)) := by
  cases p with
  | lst xs =>
    obtain ⟨a, vs, rfl, q, rr⟩ := r.sqL
    have e := intsOf_rep h rr
    subst e
    exact ⟨a, rfl, .inl (SqL.of q)⟩
  | tup xs =>
    obtain ⟨a, vs, rfl, q, rr⟩ := r.sqT
    have e := intsOf_rep h rr
    subst e
    exact ⟨a, rfl, .inr q⟩
  | _ => cases h
theorem c_minL (hc : X.calm = true := by rfl) (hK : z.K = X.K := by rfl) : CallD X z (.builtin "min") fMinL := by
  refine ⟨_, cr_minA hc, fun G S ps w vs Q h s su r k => ?_⟩
  rw [← hK]
  match ps, h with
  | [p], h =>
    obtain ⟨v, rfl, rp⟩ := repL1 r
    unfold fMinL at h
    cases e : itemsI p with
    | none => simp only [e] at h; cases h
    | some ns =>
      cases ns with
      | nil => simp only [e] at h; cases h
      | cons n ns =>
        simp only [e] at h
        cases h
        obtain ⟨a, rfl, hq⟩ := itemsI_rep e rp
        exact ⟨a, n :: ns, rfl, hq, by simp, fun m h1 h2 => by
          rw [minL_eq h1 h2]
          exact k _ G (.refl G) su (.int _)⟩
variable {scope : Scope} {x : Str} {a b : Expr} {qa qb : Env → PV → Option PV}
/-! ### within a generator expression -/
end
end FS
set_option Elab.async false
set_option linter.all false
set_option maxRecDepth 100000
set_option maxHeartbeats 2000000
/-! FsGc1: generator expressions of two fors: made; their code's turns. -/
namespace FS
open PySem PySem.Spec PyProof.Rows L2
/-! ### the turns -/
end FS
set_option Elab.async false
set_option linter.all false
set_option maxRecDepth 100000
set_option maxHeartbeats 2000000
/-! FsGc2: the loops of a generator expression of two fors, from yield to yield. -/
namespace FS
open PySem PySem.Spec PyProof.Rows L2 GenW
/-- between a yield and the next turn: all is kept -/
structure Woke (s s' : Shared) : Prop where
  os : s'.os = s.os
  bare : AllBare s'.gens
  keep : ∀ b o, s.heap.get? b = some o → s'.heap.get? b = some o
theorem Woke.inv {X : Cx} {pins : List (Addr × Obj)} {σ : L2.St} {H : Hp} {s s' : Shared} (k : Woke s s') (I : Inv X pins σ H s) : Inv X pins σ H s' := by
  obtain ⟨h', g', d', t', o'⟩ := s'
  have e : o' = s.os := k.os
  subst e
  exact inv_gens (I.kept (t' := t') k.keep) k.bare
end FS
set_option Elab.async false
set_option linter.all false
set_option maxRecDepth 100000
set_option maxHeartbeats 2000000
/-! FsGc3: the generator's frame; all(..) draws it. -/
namespace FS
open PySem PySem.Spec PyProof.Rows L2 GenW
open LamX (TabS Tabs ExtN CodeO TabB inv_table among_app)
/-- the generator's own names: x0, x1; the others are captured ones and globals -/
structure GN (N : List Str) (sc scope : Scope) : Prop where
  kind : scope.kind = .function
  co : scope.isCoroutine = false
  cell : ∀ y ∈ scope.names, y.2 ≠ .cell
  dot : scope.names.lookup (".0" : Str) = some NameKind.local
  free : ∀ y ∈ scope.names, y.2 = .free → sc.names.lookup y.1 = some .cell ∨ sc.names.lookup y.1 = some .free
  loc : ∀ y ∈ scope.names, y.2 = .local → y.1 ∉ N
theorem GN.has {X : Cx} {scope : Scope} (S : GN X.N X.env.scope scope) (ok : X.Ok) : ∀ y ∈ scope.names, y.2 = .free → ∃ c, X.env.cells.lookup y.1 = some c := fun y hy e => by
  rcases S.free y hy e with k | k
  · exact ok.has _ (.inl k)
  · exact ok.has _ (.inr k)
end FS
set_option Elab.async false
set_option linter.all false
set_option maxRecDepth 100000
set_option maxHeartbeats 2000000
/-! FsGc4: all(.. for .. in .. for .. in ..). -/
namespace FS
open PySem PySem.Spec PyProof.Rows L2 GenW
open LamX (TabS Tabs ExtN CodeO TabB)
end FS
set_option Elab.async false
set_option linter.all false
set_option maxRecDepth 100000
set_option maxHeartbeats 2000000
/-! FsGc5: all(.. for .. in .. for .. in ..) as data. -/
namespace FS
open PySem PySem.Spec PyProof.Rows L2 GenW
open LamX (TabS Tabs ExtN CodeO TabB)
end FS
set_option Elab.async false
set_option linter.all false
set_option maxRecDepth 100000
set_option maxHeartbeats 2000000
/-! FsMet1: sorted({.. for .. in .. for .. in ..}), the machine's side. -/
namespace FS
open PySem PySem.Spec PyProof.Rows L2
/-- the set comprehension of two fors -/
abbrev SE2 (elt t0 i0 t1 i1 : Expr) (scope : Scope) (pos : Pos) : Expr := .SetComp elt [⟨t0, i0, [], 0⟩, ⟨t1, i1, [], 0⟩] scope pos
theorem se2_turn0 (elt t0 i0 t1 i1 : Expr) (scope : Scope) (pos : Pos) (it acc : Value) (env : PySem.Env) : compTurn (SE2 elt t0 i0 t1 i1 scope pos) 0 it acc env = (do
      standAt i0.pos
      match ← pyNext it with
      | none => pure (.done .next)
      | some v =>
        letOwnedTupleGo t0 it v
        assign t0 env v
        let xv ← eval i1 env
        standAt i1.pos
        let xv ← foldedSetIterable i1 env xv
        let _ ← runOwn (.compStart (SE2 elt t0 i0 t1 i1 scope pos) 1 (← holding [xv] (pyIter xv)) acc env) env
        again (.compLoop (SE2 elt t0 i0 t1 i1 scope pos) 0 it acc env)) := by rfl
theorem se2_turn1 (elt t0 i0 t1 i1 : Expr) (scope : Scope) (pos : Pos) (it acc : Value) (env : PySem.Env) : compTurn (SE2 elt t0 i0 t1 i1 scope pos) 1 it acc env = (do
      standAt i1.pos
      match ← pyNext it with
      | none => pure (.done .next)
      | some v =>
        letOwnedTupleGo t1 it v
        assign t1 env v
        (do let y ← eval elt env; standAt elt.pos; let _ ← call (.builtin "set.add") [acc, y])
        again (.compLoop (SE2 elt t0 i0 t1 i1 scope pos) 1 it acc env)) := by rfl
/-- one number more in the set -/
def addS (w : World) (D : Addr) (S : Int → Bool) (n : Nat) (c : Int) : HO := SetO w D (fun j => S j || decide (j = c)) (if S c = true then n else n + 1)
def InS (w : World) (D : Addr) (g : TG) (te : TE) (Nx : L2.St → Hp → Prop) (J : It) (W : Nat → Nat → L2.St → Hp → Prop) : Prop := ∀ j k σ H, W j k σ H →
  (J.stop j H ∧ Nx σ H) ∨ (J.go j H ∧ ∃ N : L2.St → Hp → Prop, (∀ σ' H', N σ' H' → ∃ k', k' < k ∧ W (j + 1) k' σ' H') ∧ ∀ x H', J.yld j H x H' → g x σ H' fun σ3 H5 => te σ3 H5 fun y H7 => ∃ (c : Int) (S : Int → Bool) (n : Nat), y = .int c ∧ H7 D = some (SetO w D S n) ∧ n + 1 < scanBound ∧ N σ3 (upd H7 D (addS w D S n c)))
def OutS (w : World) (D : Addr) (g : TG) (wi1 : TI) (g1 : TG) (te : TE) (Q : Hp → Prop) (J : It) (W : Nat → Nat → L2.St → Hp → Prop) : Prop := ∀ i m σ H, W i m σ H →
  (J.stop i H ∧ Q H) ∨ (J.go i H ∧ ∃ N : L2.St → Hp → Prop, (∀ σ' H', N σ' H' → ∃ m', m' < m ∧ W (i + 1) m' σ' H') ∧ ∀ x H', J.yld i H x H' → g x σ H' fun σ2 H2 => wi1 σ2 H2 fun J1 H4 => ∃ W1 : Nat → Nat → L2.St → Hp → Prop, (∃ k, W1 0 k σ2 H4) ∧ InS w D g1 te N J1 W1)
section
variable {X : Cx} {elt t0 i0 t1 i1 : Expr} {scope : Scope} {pos : Pos} {it D : Addr} {R : Result → Shared → Prop} {Q : Hp → Prop} {wi1 : TI} {g g1 : TG} {te : TE}
theorem noX {P : Program} {w : World} {α : Type} {t : Sem α} {Q : α → Shared → Prop} {s : Shared} {E' : Value → Shared → Prop} {xe : Value → Shared → Prop} {A : Around} (hx : ∀ e s, ¬ xe e s) (h : wpAny (model P w) A t Q xe s) : wpAny (model P w) A t Q E' s := wpAny_mono h (fun _ _ h => h) fun e s h => absurd h (hx e s)
theorem se_in {Nx : L2.St → Hp → Prop} {J : It} {fp : List Addr} {it1 : Addr} {tn : Nat → Heap → Prop} {W : Nat → Nat → L2.St → Hp → Prop} {pins : List (Addr × Obj)}
    (hc : X.calm = true) (hx : ∀ e s, ¬ X.xe e s) (pg : PG X t1 g1) (pe : PE X elt te) (T : Turn X.prog X.w X.K t1 J fp it1 tn) (hst : ∀ b ∈ fp, ∀ H : Hp, H b = none → FpOk X pins H b) (turn : InS X.w D g1 te Nx J W)
    (hend : ∀ (s : Shared) (σ : L2.St) (H : Hp), Inv X pins σ H s → Nx σ H → R (.ok .next) s) (k j : Nat) (s : Shared) (σ : L2.St) (H : Hp) (I : Inv X pins σ H s) (st : tn j s.heap) (hN : ∀ b ∈ fp, H b = none) (w : W j k σ H) :
    codeAny (model X.prog X.w) X.A (.compLoop (SE2 elt t0 i0 t1 i1 scope pos) 1 (.ref it1) (.ref D) X.env) R s := by
  refine codeAny_loop rfl (fun k s => ∃ j σ H, Inv X pins σ H s ∧ tn j s.heap ∧ (∀ b ∈ fp, H b = none) ∧ W j k σ H) (fun k s ⟨j, σ, H, I, st, hN, w⟩ => ?_) k ⟨j, σ, H, I, st, hN, w⟩
  show wpAny _ X.A ((compTurn (SE2 elt t0 i0 t1 i1 scope pos) 1 (.ref it1) (.ref D) X.env).onRaise (fun x => do noteFrame x X.env; theTreesLotGoes x)) _ _ s
  refine wpAny_noted ?_
  rw [se2_turn1]
  refine wpAny_bind (wpAny_standAt (wpAny_bind ?_))
  rcases turn j k σ H w with ⟨stop, q⟩ | ⟨go, N, hNk, step⟩
  · refine thnF (T.done X rfl rfl rfl hc j pins s σ H (fun _ _ => False) I (fun b hb => hst b hb H (hN b hb)) st stop) fun r s1 ⟨hr, I1⟩ => ?_
    subst hr
    exact wpAny_pure (hend s1 σ H I1 q)
  · refine thnF (T.item X rfl rfl rfl hc j pins s σ H (fun _ _ => False) I (fun b hb => hst b hb H (hN b hb)) st go) fun r s1 ⟨u, hr, h1⟩ => ?_
    subst hr
    refine wpAny_bind (thnF h1 fun _ s2 ⟨x, H2, I2, r2, y2, st2, n2⟩ => ?_)
    have I2' := I2.pinned (fun b hb => hst b hb H2 (n2 b hb)) (T.obj _ _ st2)
    refine wpAny_bind (noX hx (thn (pg.run _ s2 σ H2 x u _ I2' r2 (step x H2 y2)) fun _ s3 ⟨σ3, H3, I3, q3⟩ => ?_))
    refine wpAny_bind (wpAny_bind (noX hx (thn (pe.run _ s3 σ3 H3 _ I3 q3) fun y s4 ⟨v4, H4, I4, r4, c, S, n, e4, hD, hn, q4⟩ => ?_)))
    subst e4
    refine wpAny_bind (wpAny_standAt (wpAny_bind ?_))
    refine noX hx (thn (mt_sadd (X := X) _ s4 σ3 H4 (.ref D) [.int c] (.ref D) [y] (fun v H' => v = .non ∧ N σ3 H') I4 rfl (.cons r4 .nil) ⟨D, c, S, n, rfl, rfl, hD, hn, rfl, q4⟩) fun v s5 ⟨v5, H5, I5, _, _, n5⟩ => ?_)
    refine wpAny_pure (wpAny_pure ⟨rfl, ?_⟩)
    obtain ⟨k', hk, w'⟩ := hNk σ3 H5 n5
    have pin' : ∀ b ∈ fp, ∀ o, s2.heap.get? b = some o → s5.heap.get? b = some o ∧ H5 b = none := fun b hb o e =>
      let z := I5.pin (b, o) (List.mem_append_right _ (List.mem_append_right _ (mem_pinsAt hb e)))
      ⟨z.1, z.2.1⟩
    refine ⟨k', hk, j + 1, σ3, H5, I5.unpinned, T.keep _ _ _ st2 fun b hb o e => (pin' b hb o e).1, fun b hb => ?_, w'⟩
    obtain ⟨o, e, _⟩ := T.obj _ _ st2 b hb
    exact (pin' b hb o e).2
theorem se_st {d : Nat} {it1 : Addr} {s : Shared} {env : PySem.Env} (hd : d = 0 ∨ d = 1) (hself : ∀ (Q : Value → Shared → Prop) (E : Value → Shared → Prop), Q (.ref it1) s → wpAny (model X.prog X.w) X.A (pyIter (.ref it1)) Q E s)
    (loop : codeAny (model X.prog X.w) X.A (.compLoop (SE2 elt t0 i0 t1 i1 scope pos) d (.ref it1) (.ref D) env) R s) : codeAny (model X.prog X.w) X.A (.compStart (SE2 elt t0 i0 t1 i1 scope pos) d (.ref it1) (.ref D) env) R s := by
  refine codeAny_of_tree ?_
  show wpAny _ _ ((compStart (SE2 elt t0 i0 t1 i1 scope pos) d (.ref it1) (.ref D) env).onRaise (fun x => do noteFrame x env; standAt theWindowsPlace)) _ _ s
  refine wpAny_notedAt ?_
  unfold compStart
  rcases hd with rfl | rfl
  · show wpAny _ _ (ask >>= _) _ _ s
    refine wpAny_bind (wpAny_askSetting (wpAny_ite ?_))
    split
    · first
        | exact wpAny_pure (And.intro rfl loop)
        | exact wpAny_bind (wpAny_pure (wpAny_pure (And.intro rfl loop)))
    · first
        | exact wpAny_bind (wpAny_rule (wpAny_bind (wpAny_standAt (wpAny_bind (hself _ _ (wpAny_pure (And.intro rfl loop)))))))
        | (refine wpAny_bind (wpAny_rule ?_); show wpAny _ _ (standAt i0.pos >>= _) _ _ s; exact wpAny_bind (wpAny_standAt (wpAny_bind (hself _ _ (wpAny_pure (And.intro rfl loop))))))
  · show wpAny _ _ (ask >>= _) _ _ s
    refine wpAny_bind (wpAny_askSetting (wpAny_ite ?_))
    split
    · first
        | exact wpAny_pure (And.intro rfl loop)
        | exact wpAny_bind (wpAny_pure (wpAny_pure (And.intro rfl loop)))
    · first
        | exact wpAny_bind (wpAny_rule (wpAny_bind (wpAny_standAt (wpAny_bind (hself _ _ (wpAny_pure (And.intro rfl loop)))))))
        | (refine wpAny_bind (wpAny_rule ?_); show wpAny _ _ (standAt i1.pos >>= _) _ _ s; exact wpAny_bind (wpAny_standAt (wpAny_bind (hself _ _ (wpAny_pure (And.intro rfl loop))))))
theorem se_out {J : It} {fp : List Addr} {tn : Nat → Heap → Prop} {W : Nat → Nat → L2.St → Hp → Prop}
    (hc : X.calm = true) (hx : ∀ e s, ¬ X.xe e s) (pg0 : PG X t0 g) (pi1 : PI X t1 i1 wi1) (pg : PG X t1 g1) (pe : PE X elt te) (hs : ∀ v, foldedSetIterable i1 X.env v = pure v)
    (T : Turn X.prog X.w X.K t0 J fp it tn) (hst : ∀ b ∈ fp, ∀ H : Hp, H b = none → FpOk X [] H b) (turn : OutS X.w D g wi1 g1 te Q J W)
    (hend : ∀ (s : Shared) (σ : L2.St) (H : Hp), Inv X [] σ H s → Q H → R (.ok .next) s) (m : Nat) (s : Shared) (σ : L2.St) (H : Hp) (I : Inv X [] σ H s) (st : tn 0 s.heap) (hN : ∀ b ∈ fp, H b = none) (w : W 0 m σ H) :
    codeAny (model X.prog X.w) X.A (.compLoop (SE2 elt t0 i0 t1 i1 scope pos) 0 (.ref it) (.ref D) X.env) R s := by
  refine codeAny_loop rfl (fun m s => ∃ i σ H, Inv X [] σ H s ∧ tn i s.heap ∧ (∀ b ∈ fp, H b = none) ∧ W i m σ H) (fun m s ⟨i, σ, H, I, st, hN, w⟩ => ?_) m ⟨0, σ, H, I, st, hN, w⟩
  show wpAny _ X.A ((compTurn (SE2 elt t0 i0 t1 i1 scope pos) 0 (.ref it) (.ref D) X.env).onRaise (fun x => do noteFrame x X.env; theTreesLotGoes x)) _ _ s
  refine wpAny_noted ?_
  rw [se2_turn0]
  refine wpAny_bind (wpAny_standAt (wpAny_bind ?_))
  rcases turn i m σ H w with ⟨stop, q⟩ | ⟨go, N, hNk, step⟩
  · refine thnF (T.done X rfl rfl rfl hc i [] s σ H (fun _ _ => False) I (fun b hb => hst b hb H (hN b hb)) st stop) fun r s1 ⟨hr, I1⟩ => ?_
    subst hr
    exact wpAny_pure (hend s1 σ H I1 q)
  · refine thnF (T.item X rfl rfl rfl hc i [] s σ H (fun _ _ => False) I (fun b hb => hst b hb H (hN b hb)) st go) fun r s1 ⟨u, hr, h1⟩ => ?_
    subst hr
    refine wpAny_bind (thnF h1 fun _ s2 ⟨x, H2, I2, r2, y2, st2, n2⟩ => ?_)
    have I2' := I2.pinned (fun b hb => hst b hb H2 (n2 b hb)) (T.obj _ _ st2)
    refine wpAny_bind (noX hx (thn (pg0.run _ s2 σ H2 x u _ I2' r2 (step x H2 y2)) fun _ s3 ⟨σ3, H3, I3, q3⟩ => ?_))
    refine wpAny_bind (noX hx (thn (pi1.run _ s3 σ3 H3 _ I3 q3) fun xv s4 h4 => ?_))
    refine wpAny_bind (wpAny_standAt (wpAny_bind (wpAny_of_eq (hs xv) (wpAny_bind (wpAny_holding ?_)))))
    refine noX hx (thn h4 fun itv s5 h5 => ?_)
    obtain ⟨it1, fp1, tn1, J1, H5, e5, I5, T1, st5, f5, W1, ⟨k1, w1⟩, turn1⟩ := h5
    subst e5
    refine wpAny_bind (wpAny_runOwn ?_)
    rw [Around.mark_none]
    have stat1 : ∀ b ∈ fp1, ∀ H' : Hp, H' b = none → FpOk X ([] ++ pinsAt fp s2.heap) H' b := fun b hb H' hn => ⟨hn, (f5 b hb).2⟩
    refine se_st (.inr rfl) (fun Q' E' h => T1.self X.A 0 s5 Q' E' st5 h) ?_
    refine se_in hc hx pg pe T1 stat1 turn1 (fun s' σ' H' I' nxt => ?_) k1 0 s5 σ3 H5 I5 st5 (fun b hb => (f5 b hb).1) w1
    refine wpAny_pure ⟨rfl, ?_⟩
    obtain ⟨m', hm, w'⟩ := hNk σ' H' nxt
    have pin' : ∀ c ∈ fp, ∀ o, s2.heap.get? c = some o → s'.heap.get? c = some o ∧ H' c = none := fun c hc o e =>
      let z := I'.pin (c, o) (List.mem_append_right _ (List.mem_append_right _ (mem_pinsAt hc e)))
      ⟨z.1, z.2.1⟩
    refine ⟨m', hm, i + 1, σ', H', I'.unpinned, T.keep _ _ _ st2 fun c hc o e => (pin' c hc o e).1, fun c hc => ?_, w'⟩
    obtain ⟨o, e, _⟩ := T.obj _ _ st2 c hc
    exact (pin' c hc o e).2
end
end FS
set_option Elab.async false
set_option linter.all false
set_option maxRecDepth 100000
set_option maxHeartbeats 2000000
/-! FsMet2: sorted({x1 for x0 in e for x1 in x0}), rows of ints. -/
namespace FS
open PySem PySem.Spec PyProof.Rows L2
def tMet (w : World) (wi : TI) (g : TG) (wi1 : TI) (g1 : TG) (te : TE) (vs : List Nat) : TE := fun σ H Q => wi σ H fun J H1 => ∀ D, H1 D = none → ∃ (W : Nat → Nat → L2.St → Hp → Prop) (m : Nat), W 0 m (wipe σ vs) (upd H1 D (SetO w D (fun _ => false) 0)) ∧
  OutS w D g wi1 g1 te (fun H => ∃ (S : Int → Bool) (n : Nat), H D = some (SetO w D S n) ∧ n < 64 ∧ ∀ (ns : List Int) (p : Addr), ns.Pairwise (· < ·) → (∀ k : Int, k ∈ ns ↔ S k = true) → ns.length = n → H p = none → Q (.ref p) (upd H p (.lst (ns.map V.int)))) J W
section
variable {X : Cx} {elt t0 i0 t1 i1 : Expr} {scope : Scope} {pos cpos p1 : Pos} {wi wi1 : TI} {g g1 : TG} {te : TE} {own : List (Str × Nat)}
theorem pe_met (hc : X.calm = true) (hm : X.mg "sorted" = none) (hN : X.N.Nodup) (hi : PI X t0 i0 wi) (ok : BlkOk X.N X.env.scope scope own)
    (hb : ∀ (s : Shared) (H : Hp) (C : Addr) (cl : List (Str × Addr)) (fp : List Addr), PG (X.blk s H scope (compEnvC scope cl C X.env) fp) t0 g ∧ PI (X.blk s H scope (compEnvC scope cl C X.env) fp) t1 i1 wi1 ∧ PG (X.blk s H scope (compEnvC scope cl C X.env) fp) t1 g1 ∧ PE (X.blk s H scope (compEnvC scope cl C X.env) fp) elt te)
    (hg : Gl X "sorted" := by rfl) (hs : ∀ v, foldedSetIterable i0 X.env v = pure v := by intro _; rfl) (hs1 : ∀ env v, foldedSetIterable i1 env v = pure v := by intro _ _; rfl)
    (he : starEach [SE2 elt t0 i0 t1 i1 scope cpos] X.env = (false, eval (SE2 elt t0 i0 t1 i1 scope cpos) X.env) :: starEach [] X.env := by rfl) :
    PE X (.Call (.Name "sorted" p1) [SE2 elt t0 i0 t1 i1 scope cpos] [] pos) (tMet X.w wi g wi1 g1 te (own.map (·.2))) := by
  refine ⟨fun pins s σ H Q I h => ?_⟩
  refine wpAny_Call_Name_kw (ld_blt (u := .builtin "sorted") I hg hm (by decide +kernel) ?_)
  refine PyProof.Rows.callWith_builtin1 ?_ he (by rfl)
  rw [he]
  show wpAny _ _ (spliced ((false, eval (SE2 elt t0 i0 t1 i1 scope cpos) X.env) :: backTo pos (starEach [] X.env))) _ _ s
  refine Calls.spliced_cons ?_
  have hfree : ∀ y ∈ scope.names, y.2 = .free → ∃ c, X.env.cells.lookup y.1 = some c := fun y hy e => by
    rcases ok.free y hy e with k | k
    · exact I.ok.has _ (.inl k)
    · exact I.ok.has _ (.inr k)
  rw [PpSet.eval_SetComp]
  refine wpAny_comprehension_free (use := none) rfl hs (closure_ok hfree) ok.kind (fun y hy e => by rw [ok.uniq y hy, e]) (thn (hi.run pins s σ H _ I h) fun xv s1 hx => thn hx fun itv s2 h2 => ?_)
  obtain ⟨it, fp, tn, J, H2, e, I2, T, st2, f2, q⟩ := h2
  subst e
  refine PpSet.newSet_ok (newEnv_comp ?_)
  generalize hD : s2.heap.objs.size = D
  obtain ⟨W, m, w0, turn⟩ := q D (I2.hok.fresh (Nat.le_of_eq hD))
  generalize hs3 : ({ s2 with heap := s2.heap.push { cls := .type "set", dict := none, data := .set #[] 0 (.fresh 0 0 (!X.w.params.followText "set-order")) } } : Shared) = s3
  have hp3 : s3.heap = s2.heap.push { cls := .type "set", dict := none, data := .set #[] 0 (.fresh 0 0 (!X.w.params.followText "set-order")) } := by rw [← hs3]
  have lt2 : ∀ b ∈ fp, b < s2.heap.objs.size := fun b hb => (T.obj _ _ st2 b hb).elim fun _ h => Heap.lt_size h.1
  have I3 : Inv X pins σ (upd H2 D (SetO X.w D (fun _ => false) 0)) s3 := by
    rw [← hs3]
    refine I2.laid (t' := s2.toks) (fun b o e => Heap.get?_push_of_some _ e) (Nat.le_of_eq hD) (setO_new ?_)
    rw [← hD]
    exact setR_fresh X.w
  have f3 : ∀ b ∈ fp, FpOk X pins (upd H2 D (SetO X.w D (fun _ => false) 0)) b ∧ b < s3.heap.objs.size := fun b hb => by
    have hlt := lt2 b hb
    refine ⟨⟨?_, (f2 b hb).2⟩, by rw [hp3, Heap.size_push]; exact Nat.lt_succ_of_lt hlt⟩
    rw [upd_ne (by rw [← hD]; exact Nat.ne_of_lt hlt)]
    exact (f2 b hb).1
  have st3 : tn 0 s3.heap := T.keep _ _ _ st2 fun b _ o e => by rw [hp3]; exact Heap.get?_push_of_some _ e
  have I4 := block_start I3 ok hN f3
  obtain ⟨pg0, pi1, pg1, pe⟩ := hb s3 (upd H2 D (SetO X.w D (fun _ => false) 0)) s3.heap.objs.size (cellsFrom (s3.heap.objs.size + 1) scope.names (cloFrom X.env.cells scope.names [])) fp
  show codeAny _ _ (.compStart (SE2 elt t0 i0 t1 i1 scope cpos) 0 (.ref it) (.ref D) (compEnvC scope (cellsFrom (s3.heap.objs.size + 1) scope.names (cloFrom X.env.cells scope.names [])) s3.heap.objs.size X.env)) (compPost (model X.prog X.w) X.A X.xe none _ (.ref D) s3.heap.objs.size) { s3 with heap := pushCells (s3.heap.push { cls := .type "dict", data := .dict #[] }) scope.names }
  generalize hce : compEnvC scope (cellsFrom (s3.heap.objs.size + 1) scope.names (cloFrom X.env.cells scope.names [])) s3.heap.objs.size X.env = ce at I4 pg0 pi1 pg1 pe ⊢
  have cL : ce.locals = s3.heap.objs.size := by rw [← hce]; rfl
  generalize hH3 : upd H2 D (SetO X.w D (fun _ => false) 0) = H3 at I3 I4 pg0 pi1 pg1 pe w0 f3
  generalize hs4 : ({ s3 with heap := pushCells (s3.heap.push { cls := .type "dict", data := .dict #[] }) scope.names } : Shared) = s4 at I4 ⊢
  have st4 : tn 0 s4.heap := T.keep _ _ _ st3 fun b _ o e => by rw [← hs4]; exact pushCells_keeps _ _ _ _ (Heap.get?_push_of_some _ e)
  refine se_st (X := X.blk s3 H3 scope ce fp) (.inl rfl) (fun Q' E' h => T.self X.A 0 s4 Q' E' st4 h) ?_
  refine se_out (X := X.blk s3 H3 scope ce fp) hc (fun _ _ h => h) pg0 pi1 pg1 pe (hs1 _) T (fun b hb H' hn => ?_) turn (fun s' σ' H' I' qq => ?_) m s4 _ H3 I4 st4 (fun b hb => (f3 b hb).1.1) w0
  · exact ⟨hn, (I4.ok.exf b hb).1, I4.ok.exfs b hb, .inl hb, fun x c e => (I4.ok.exf b hb).2 x c e, fun p hp => absurd (show p ∈ ([] : List (Addr × Obj)) ++ [] from hp) (by simp)⟩
  · have I7 : Inv X pins σ H' s' := I3.call' (ch := fp) I'.os I'.base I'.hok I'.bare fun b hb => ⟨(f3 b hb).1.2.2.2.1, (f3 b hb).1.2.1, (f3 b hb).1.2.2.2.2.1, (f3 b hb).1.2.2.2.2.2⟩
    have nC : H' s3.heap.objs.size = none := by
      have z : H' ce.locals = none := I'.free
      rw [cL] at z
      exact z
    obtain ⟨mm, hn, _⟩ := I'.loc
    have hn : s'.heap.Ns ce.locals mm := hn
    rw [cL] at hn
    obtain ⟨f0, f1, _, f4, f5, f6⟩ := I3.fpOk (H' := H') (Nat.le_refl _) nC
    refine ⟨mm, hn, fun h'' sb => ?_⟩
    have I8 : Inv X pins σ H' { s' with heap := h'' } := I7.turned (t' := s'.toks) (fun b o hb e => (sb.2 b hb).trans e) f0 f1 f4 f5 f6
    obtain ⟨S, n, hS, h64, hq⟩ := qq
    refine Calls.spliced_nil ?_
    exact thn (wpAny_mono (cr_sortedSet hc pins _ σ H' [.ref D] [.ref D] Q I8 (.cons rfl .nil) ⟨D, S, n, rfl, hS, h64, hq⟩) (fun _ _ h => h) fun _ _ h => h) fun _ _ h => h
end
end FS
set_option Elab.async false
set_option linter.all false
set_option maxRecDepth 100000
set_option maxHeartbeats 2000000
/-! FsMet3: sorted({x1 for x0 in e for x1 in x0}) as data. -/
namespace FS
open PySem PySem.Spec PyProof.Rows L2
/-- a number put into a rising list -/
def insU (c : Int) : List Int → List Int
  | [] => [c]
  | x :: xs => if c < x then c :: x :: xs else if c = x then x :: xs else x :: insU c xs
theorem insU_mem {c k : Int} : ∀ {l : List Int}, k ∈ insU c l ↔ k = c ∨ k ∈ l
  | [] => by simp [insU]
  | x :: xs => by
    unfold insU
    by_cases h1 : c < x
    · rw [if_pos h1]; simp
    · rw [if_neg h1]
      by_cases h2 : c = x
      · rw [if_pos h2]; subst h2; simp
      · rw [if_neg h2, List.mem_cons, insU_mem, List.mem_cons]
        constructor
        · rintro (h | h | h)
          · exact .inr (.inl h)
          · exact .inl h
          · exact .inr (.inr h)
        · rintro (h | h | h)
          · exact .inr (.inl h)
          · exact .inl h
          · exact .inr (.inr h)
theorem insU_ris {c : Int} : ∀ {l : List Int}, l.Pairwise (· < ·) → (insU c l).Pairwise (· < ·)
  | [], _ => by simp [insU]
  | x :: xs, h => by
    obtain ⟨h1, h2⟩ := List.pairwise_cons.mp h
    unfold insU
    by_cases q1 : c < x
    · rw [if_pos q1]
      refine List.pairwise_cons.mpr ⟨fun y hy => ?_, h⟩
      rcases List.mem_cons.mp hy with e | hy
      · rw [e]; exact q1
      · have := h1 y hy; omega
    · rw [if_neg q1]
      by_cases q2 : c = x
      · rw [if_pos q2]; exact h
      · rw [if_neg q2]
        refine List.pairwise_cons.mpr ⟨fun y hy => ?_, insU_ris h2⟩
        rcases insU_mem.mp hy with e | hy
        · omega
        · exact h1 y hy
theorem insU_len {c : Int} : ∀ {l : List Int}, l.Pairwise (· < ·) → (insU c l).length = if c ∈ l then l.length else l.length + 1
  | [], _ => by simp [insU]
  | x :: xs, h => by
    obtain ⟨h1, h2⟩ := List.pairwise_cons.mp h
    unfold insU
    by_cases q1 : c < x
    · have : c ∉ x :: xs := fun m => by
        rcases List.mem_cons.mp m with e | m
        · omega
        · have := h1 c m; omega
      rw [if_pos q1, if_neg this]; rfl
    · rw [if_neg q1]
      by_cases q2 : c = x
      · rw [if_pos q2, if_pos (by rw [q2]; exact List.mem_cons_self)]
      · rw [if_neg q2, List.length_cons, insU_len h2]
        by_cases q3 : c ∈ xs
        · rw [if_pos q3, if_pos (List.mem_cons_of_mem _ q3), List.length_cons]
        · rw [if_neg q3, if_neg (fun m => by
            rcases List.mem_cons.mp m with e | m
            · exact q2 e
            · exact q3 m), List.length_cons]
/-- the numbers of a list, rising, each once -/
def srtI (l : List Int) : List Int := l.foldl (fun acc c => insU c acc) []
theorem srtI_snoc (l : List Int) (c : Int) : srtI (l ++ [c]) = insU c (srtI l) := by
  unfold srtI
  rw [List.foldl_append]
  rfl
theorem srtI_all (l : List Int) : (srtI l).Pairwise (· < ·) ∧ ∀ k, k ∈ srtI l ↔ k ∈ l := by
  suffices h : ∀ (l acc : List Int), acc.Pairwise (· < ·) → (l.foldl (fun acc c => insU c acc) acc).Pairwise (· < ·) ∧ ∀ k, k ∈ l.foldl (fun acc c => insU c acc) acc ↔ k ∈ l ∨ k ∈ acc by
    obtain ⟨h1, h2⟩ := h l [] List.Pairwise.nil
    exact ⟨h1, fun k => by rw [show srtI l = l.foldl (fun acc c => insU c acc) [] from rfl, h2]; simp⟩
  intro l
  induction l with
  | nil => exact fun acc h => ⟨h, fun k => by simp⟩
  | cons c l ih =>
    intro acc h
    obtain ⟨h1, h2⟩ := ih (insU c acc) (insU_ris h)
    refine ⟨h1, fun k => ?_⟩
    rw [List.foldl_cons, h2, insU_mem, List.mem_cons]
    constructor
    · rintro (h | h | h)
      · exact .inl (.inr h)
      · exact .inl (.inl h)
      · exact .inr h
    · rintro ((h | h) | h)
      · exact .inr (.inl h)
      · exact .inl h
      · exact .inr (.inr h)
theorem ris_uniq : ∀ {a b : List Int}, a.Pairwise (· < ·) → b.Pairwise (· < ·) → (∀ k, k ∈ a ↔ k ∈ b) → a = b
  | [], [], _, _, _ => rfl
  | [], y :: b, _, _, h => absurd ((h y).mpr List.mem_cons_self) (by simp)
  | x :: a, [], _, _, h => absurd ((h x).mp List.mem_cons_self) (by simp)
  | x :: a, y :: b, ha, hb, h => by
    obtain ⟨a1, a2⟩ := List.pairwise_cons.mp ha
    obtain ⟨b1, b2⟩ := List.pairwise_cons.mp hb
    have e : x = y := by
      have h1 := (h x).mp List.mem_cons_self
      have h2 := (h y).mpr List.mem_cons_self
      rcases List.mem_cons.mp h1 with e | h1
      · exact e
      · rcases List.mem_cons.mp h2 with e | h2
        · exact e.symm
        · have := b1 x h1
          have := a1 y h2
          omega
    subst e
    refine congrArg (x :: ·) (ris_uniq a2 b2 fun k => ?_)
    constructor
    · intro hk
      rcases List.mem_cons.mp ((h k).mp (List.mem_cons_of_mem _ hk)) with e | m
      · have := a1 k hk; omega
      · exact m
    · intro hk
      rcases List.mem_cons.mp ((h k).mpr (List.mem_cons_of_mem _ hk)) with e | m
      · have := b1 k hk; omega
      · exact m
theorem srtI_le (l : List Int) (c : Int) : (srtI l).length ≤ (srtI (l ++ [c])).length := by
  rw [srtI_snoc, insU_len (srtI_all l).1]
  split <;> omega
theorem srtI_pre (l m : List Int) : (srtI l).length ≤ (srtI (l ++ m)).length := by
  induction m generalizing l with
  | nil => simp
  | cons c m ih =>
    have e : l ++ c :: m = (l ++ [c]) ++ m := by simp
    rw [e]
    exact Nat.le_trans (srtI_le l c) (ih _)
/-- rows of ints -/
def rowsI : List PV → Option (List (List Int))
  | [] => some []
  | .tup xs :: rs => match intsOf xs, rowsI rs with
    | some ns, some nss => some (ns :: nss)
    | _, _ => none
  | _ :: _ => none
theorem rowsI_get : ∀ {rs : List PV} {nss : List (List Int)}, rowsI rs = some nss → rs.length = nss.length ∧ ∀ (i : Nat) (p : PV), rs[i]? = some p → ∃ (xs : List PV) (ns : List Int), p = .tup xs ∧ intsOf xs = some ns ∧ nss[i]? = some ns
  | [], nss, h => by
    cases h
    exact ⟨rfl, fun i p h => by simp at h⟩
  | .tup xs :: rs, nss, h => by
    unfold rowsI at h
    cases e1 : intsOf xs with
    | none => rw [e1] at h; cases h
    | some ns =>
      cases e2 : rowsI rs with
      | none => rw [e1, e2] at h; cases h
      | some ms =>
        rw [e1, e2] at h
        cases h
        obtain ⟨h1, h2⟩ := rowsI_get e2
        refine ⟨by rw [List.length_cons, List.length_cons, h1], fun i p hp => ?_⟩
        cases i with
        | zero =>
          simp at hp
          subst hp
          exact ⟨xs, ns, rfl, e1, rfl⟩
        | succ i => exact h2 i p (by simpa using hp)
  | .non :: _, _, h => by cases h
  | .bl _ :: _, _, h => by cases h
  | .int _ :: _, _, h => by cases h
  | .str _ :: _, _, h => by cases h
  | .tuz _ :: _, _, h => by cases h
  | .lst _ :: _, _, h => by cases h
  | .scr _ :: _, _, h => by cases h
  | .ref _ :: _, _, h => by cases h
  | .raw _ :: _, _, h => by cases h
  | .dic _ _ :: _, _, h => by cases h
def seqF : PV → Option (List PV)
  | .tup xs => some xs
  | .lst xs => some xs
  | _ => none
def dMet (a b : Nat) (d : Cd PV) : Cd (List PV) := bnd d fun p => fun e s => match (seqF p).bind rowsI with
  | some nss => if (srtI nss.flatten).length < 64 ∧ a < e.length ∧ b < e.length ∧ a ≠ b then .ok ((srtI nss.flatten).map PV.int) e s else .bad
  | none => .bad
section
variable {X : Cx} {z : Zx} {i0 : Expr} {x0 x1 : Str} {scope : Scope} {pos cpos p1 q1 q2 q3 q4 : Pos} {a b : Nat} {d : Cd PV}
def goodS (S : Int → Bool) (n : Nat) (l : List Int) : Prop := (∀ k, S k = true ↔ k ∈ l) ∧ n = (srtI l).length
theorem goodS_add {S : Int → Bool} {n : Nat} {l : List Int} (c : Int) (h : goodS S n l) : goodS (fun j => S j || decide (j = c)) (if S c = true then n else n + 1) (l ++ [c]) := by
  obtain ⟨h1, h2⟩ := h
  refine ⟨fun k => ?_, ?_⟩
  · rw [Bool.or_eq_true, h1, decide_eq_true_eq, List.mem_append, List.mem_singleton]
  · rw [srtI_snoc, insU_len (srtI_all l).1, h2]
    by_cases q : c ∈ l
    · rw [if_pos ((h1 c).mpr q), if_pos (((srtI_all l).2 c).mpr q)]
    · rw [if_neg (fun z => q ((h1 c).mp z)), if_neg (fun z => q (((srtI_all l).2 c).mp z))]
theorem sqT_upd {K : PySem.W.Frag} {H : Hp} {D c : Addr} {o : HO} {xs : List V} (hD : H D = none) (h : SqT K H c xs) : SqT K (upd H D o) c xs := by
  rcases h with (h | ⟨u, h⟩) | h
  · exact .inl (.inl (by rw [upd_ne (ne_of_none h hD)]; exact h))
  · exact .inl (.inr ⟨u, by rw [upd_ne (ne_of_none h hD)]; exact h⟩)
  · exact .inr h
theorem sqL_upd {K : PySem.W.Frag} {H : Hp} {D c : Addr} {o : HO} {xs : List V} (hD : H D = none) (h : SqL K H c xs) : SqL K (upd H D o) c xs := by
  rcases h with (h | ⟨u, h⟩) | h
  · exact .inl (.inl (by rw [upd_ne (ne_of_none h hD)]; exact h))
  · exact .inl (.inr ⟨u, by rw [upd_ne (ne_of_none h hD)]; exact h⟩)
  · exact .inr h
theorem upd_upd {H : Hp} {D : Addr} {o o' : HO} : upd (upd H D o) D o' = upd H D o' := by
  funext c
  by_cases h : c = D
  · rw [h, upd_same, upd_same]
  · rw [upd_ne h, upd_ne h, upd_ne h]
/-- both loops -/
theorem met_loops {J : It} {H1 : Hp} {D : Addr} {vs : List V} {nss : List (List Int)} {L : Nat} {Q : Hp → Prop} (hD : H1 D = none) (hab : a ≠ b) (ha : a < L) (hb : b < L) (hlen : vs.length = nss.length) (h64 : (srtI nss.flatten).length < 64)
    (hrow : ∀ (i : Nat) (v : V) (ns : List Int), vs[i]? = some v → nss[i]? = some ns → ∃ r : Addr, v = .ref r ∧ SqT X.K H1 r (ns.map V.int))
    (hgo : ∀ (o : HO) (i : Nat) (x : V), vs[i]? = some x → J.go i (upd H1 D o) ∧ ∀ y H', J.yld i (upd H1 D o) y H' → H' = upd H1 D o ∧ y = x) (hstop : ∀ (o : HO) (i : Nat), vs.length ≤ i → J.stop i (upd H1 D o))
    (hq : ∀ S n, goodS S n nss.flatten → Q (upd H1 D (SetO X.w D S n))) {σ : L2.St} (hσ : σ.length = L) :
    ∃ (W : Nat → Nat → L2.St → Hp → Prop) (m : Nat), W 0 m σ (upd H1 D (SetO X.w D (fun _ => false) 0)) ∧ OutS X.w D (gName a) (iTup X.K (tVar a)) (gName b) (tVar b) Q J W := by
  refine ⟨fun i m σ H => m = vs.length - i ∧ i ≤ vs.length ∧ σ.length = L ∧ ∃ S n, H = upd H1 D (SetO X.w D S n) ∧ goodS S n (nss.take i).flatten, vs.length, ⟨by simp, Nat.zero_le _, hσ, _, _, rfl, by simp, by simp [srtI]⟩, ?_⟩
  rintro i m σ H ⟨rfl, hi, hl, S, n, rfl, hg⟩
  by_cases hlt : i < vs.length
  · obtain ⟨ns, hns⟩ : ∃ ns, nss[i]? = some ns := ⟨nss[i], by simp [← hlen, hlt]⟩
    obtain ⟨r, hv, hr⟩ := hrow i vs[i] ns (by simp [hlt]) hns
    obtain ⟨g1, g2⟩ := hgo (SetO X.w D S n) i vs[i] (by simp [hlt])
    have htake : nss.take (i + 1) = nss.take i ++ [ns] := by rw [List.take_succ, hns]; rfl
    refine .inr ⟨g1, fun σ' H' => σ'.length = L ∧ ∃ S n, H' = upd H1 D (SetO X.w D S n) ∧ goodS S n (nss.take (i + 1)).flatten, fun σ' H' ⟨h1, h2⟩ => ⟨vs.length - (i + 1), by omega, rfl, hlt, h1, h2⟩, fun x H' y => ?_⟩
    obtain ⟨e1, e2⟩ := g2 x H' y
    subst e1 e2
    rw [hv]
    refine ⟨.ref r, by rw [List.getElem?_set_self (by rw [hl]; exact ha)], r, rfl, ⟨_, sqT_upd hD hr⟩, ?_⟩
    refine ⟨fun j k σ' H' => k = ns.length - j ∧ j ≤ ns.length ∧ σ'.length = L ∧ ∃ S n, H' = upd H1 D (SetO X.w D S n) ∧ goodS S n ((nss.take i).flatten ++ ns.take j), ⟨ns.length, by simp, Nat.zero_le _, by rw [List.length_set]; exact hl, S, n, rfl, by simpa using hg⟩, ?_⟩
    rintro j k σ2 H2 ⟨rfl, hj, hl2, S2, n2, rfl, hg2⟩
    by_cases hjlt : j < ns.length
    · have hnj : ns[j]? = some ns[j] := by simp [hjlt]
      have hvj : (ns.map V.int)[j]? = some (.int ns[j]) := by rw [List.getElem?_map, hnj]; rfl
      refine .inr ⟨⟨_, _, sqT_upd hD hr, hvj⟩, fun σ' H' => σ'.length = L ∧ ∃ S n, H' = upd H1 D (SetO X.w D S n) ∧ goodS S n ((nss.take i).flatten ++ ns.take (j + 1)), fun σ' H' ⟨h1, h2⟩ => ⟨ns.length - (j + 1), by omega, rfl, hjlt, h1, h2⟩, fun x H' ⟨e1, hx⟩ => ?_⟩
      subst e1
      have ex := hx _ (sqT_upd hD hr)
      rw [hvj] at ex
      cases ex
      have tj : ns.take (j + 1) = ns.take j ++ [ns[j]] := by rw [List.take_succ, hnj]; rfl
      refine ⟨.int ns[j], by rw [List.getElem?_set_self (by rw [hl2]; exact hb)], ns[j], S2, n2, rfl, upd_same, ?_, by rw [List.length_set]; exact hl2, _, _, upd_upd, by rw [tj, ← List.append_assoc]; exact goodS_add _ hg2⟩
      have h1 := srtI_pre ((nss.take i).flatten ++ ns.take j) (ns.drop j ++ (nss.drop (i + 1)).flatten)
      have h2 : (nss.take i).flatten ++ ns.take j ++ (ns.drop j ++ (nss.drop (i + 1)).flatten) = nss.flatten := by
        have e3 : nss = nss.take (i + 1) ++ nss.drop (i + 1) := (List.take_append_drop _ _).symm
        conv => rhs; rw [e3, htake]
        simp only [List.flatten_append, List.flatten_cons, List.flatten_nil, List.append_nil, List.append_assoc]
        rw [← List.append_assoc (ns.take j), List.take_append_drop]
      rw [h2] at h1
      rw [hg2.2]
      exact Nat.lt_of_le_of_lt (Nat.succ_le_succ (Nat.le_trans h1 (Nat.le_of_lt h64))) (by decide)
    · refine .inl ⟨⟨_, sqT_upd hD hr, by rw [List.length_map]; omega⟩, hl2, S2, n2, rfl, ?_⟩
      rw [htake, List.flatten_append]
      have e : ns.take j = ns := List.take_of_length_le (by omega)
      rw [e] at hg2
      simpa using hg2
  · have e : nss.take i = nss := List.take_of_length_le (by omega)
    rw [e] at hg
    exact .inl ⟨hstop _ i (by omega), hq S n hg⟩
theorem itt_go {K : PySem.W.Frag} {H1 : Hp} {D c : Addr} {vs : List V} (hD : H1 D = none) (hq : SqT K H1 c vs) (o : HO) (i : Nat) (x : V) (hx : vs[i]? = some x) : (Itt K c).go i (upd H1 D o) ∧ ∀ y H', (Itt K c).yld i (upd H1 D o) y H' → H' = upd H1 D o ∧ y = x :=
  ⟨⟨vs, x, sqT_upd hD hq, hx⟩, fun y H' ⟨e, h⟩ => ⟨e, by
    have q := h vs (sqT_upd hD hq)
    rw [hx] at q
    exact (Option.some.inj q).symm⟩⟩
theorem itl_go {K : PySem.W.Frag} {H1 : Hp} {D c : Addr} {vs : List V} (hD : H1 D = none) (hq : SqL K H1 c vs) (o : HO) (i : Nat) (x : V) (hx : vs[i]? = some x) : (Itl K c).go i (upd H1 D o) ∧ ∀ y H', (Itl K c).yld i (upd H1 D o) y H' → H' = upd H1 D o ∧ y = x :=
  ⟨⟨vs, x, sqL_upd hD hq, hx⟩, fun y H' ⟨e, h⟩ => ⟨e, by
    have q := h vs (sqL_upd hD hq)
    rw [hx] at q
    exact (Option.some.inj q).symm⟩⟩
theorem mf_met (a b : Nat) (own : List (Str × Nat)) (hm : X.mg "sorted" = none) (hN : X.N.Nodup) (he : ME X z i0 d) {N : List Str} {sc : Scope} (ok : blkC N sc scope own = true)
    (hb : ∀ (s : Shared) (H : Hp) (C : Addr) (cl : List (Str × Addr)) (fp : List Addr), PG (X.blk s H scope (compEnvC scope cl C X.env) fp) (.Name x0 q2) (gName a) ∧ PE (X.blk s H scope (compEnvC scope cl C X.env) fp) (.Name x0 q4) (tVar a) ∧
      PG (X.blk s H scope (compEnvC scope cl C X.env) fp) (.Name x1 q3) (gName b) ∧ PE (X.blk s H scope (compEnvC scope cl C X.env) fp) (.Name x1 q1) (tVar b))
    (hc : X.calm = true := by rfl) (hK : z.K = X.K := by rfl) (hXN : X.N = N := by rfl) (hsc : X.env.scope = sc := by rfl) (hg : Gl X "sorted" := by rfl) (hs : ∀ v, foldedSetIterable i0 X.env v = pure v := by intro _; rfl)
    (hst : starEach [SE2 (.Name x1 q1) (.Name x0 q2) i0 (.Name x1 q3) (.Name x0 q4) scope cpos] X.env = (false, eval (SE2 (.Name x1 q1) (.Name x0 q2) i0 (.Name x1 q3) (.Name x0 q4) scope cpos) X.env) :: starEach [] X.env := by rfl) :
    MF X z (.Call (.Name "sorted" p1) [SE2 (.Name x1 q1) (.Name x0 q2) i0 (.Name x1 q3) (.Name x0 q4) scope cpos] [] pos) (dMet a b d) := by
  refine PE.imp (pe_met (g := gName a) (wi1 := iTup X.K (tVar a)) (g1 := gName b) (te := tVar b) hc hm hN (PI.or (pi_list he) (pi_tup he)) (blkOk_by (by rw [hXN, hsc]; exact ok)) (fun s H C cl fp => ⟨(hb s H C cl fp).1, pi_tup (hb s H C cl fp).2.1, (hb s H C cl fp).2.2.1, (hb s H C cl fp).2.2.2⟩) hg hs (fun _ _ => rfl) hst) fun σ H Q ⟨G, env, S, e, A, P⟩ => ?_
  subst e
  unfold dMet bnd at P
  cases e : d env S with
  | bad => rw [e] at P; exact P.elim
  | raise c w e1 s1 =>
    rw [e] at P
    exact .inl ⟨G, env, S, rfl, A, by rw [e]; exact P⟩
  | ok p env1 S1 =>
    rw [e] at P
    have P1 : PostF z G σ Q (match (seqF p).bind rowsI with
      | some nss => if (srtI nss.flatten).length < 64 ∧ a < env1.length ∧ b < env1.length ∧ a ≠ b then .ok ((srtI nss.flatten).map PV.int) env1 S1 else .bad
      | none => .bad) := P
    cases e1 : seqF p with
    | none => rw [e1] at P1; exact P1.elim
    | some rs =>
      rw [e1, Option.bind_some] at P1
      cases e2 : rowsI rs with
      | none => rw [e2] at P1; exact P1.elim
      | some nss =>
        rw [e2] at P1
        by_cases hcnd : (srtI nss.flatten).length < 64 ∧ a < env1.length ∧ b < env1.length ∧ a ≠ b
        · have P2 : PostF z G σ Q (.ok ((srtI nss.flatten).map PV.int) env1 S1) := by
            simpa only [if_pos hcnd] using P1
          obtain ⟨h64, ha, hb', hab⟩ := hcnd
          obtain ⟨hl1, hget⟩ := rowsI_get e2
          -- what follows, from the walked thing's own data
          have go : ∀ (J : It) (G1 : Wd) (vs : List V), Mon G G1 → At z.K z.G0 G1 S1 env1 σ → RepL z.K G1 rs vs → (∀ D o i x, G1.H D = none → vs[i]? = some x → J.go i (upd G1.H D o) ∧ ∀ y H', J.yld i (upd G1.H D o) y H' → H' = upd G1.H D o ∧ y = x) →
              (∀ D o i, G1.H D = none → vs.length ≤ i → J.stop i (upd G1.H D o)) → ∀ D, G1.H D = none → ∃ (W : Nat → Nat → L2.St → Hp → Prop) (m : Nat), W 0 m (wipe σ (own.map (·.2))) (upd G1.H D (SetO X.w D (fun _ => false) 0)) ∧
                OutS X.w D (gName a) (iTup X.K (tVar a)) (gName b) (tVar b) (fun H => ∃ (S : Int → Bool) (n : Nat), H D = some (SetO X.w D S n) ∧ n < 64 ∧ ∀ (ns : List Int) (p : Addr), ns.Pairwise (· < ·) → (∀ k : Int, k ∈ ns ↔ S k = true) → ns.length = n → H p = none → Q (.ref p) (upd H p (.lst (ns.map V.int)))) J W := by
            intro J G1 vs m1 A1 rr hgo hstop D hD
            refine met_loops (L := env1.length) (nss := nss) hD hab ha hb' (by rw [← rr.length]; exact hl1) h64 (fun i v ns hv hns => ?_) (fun o i x hx => hgo D o i x hD hx) (fun o i h => hstop D o i hD h) (fun S n hgd => ⟨S, n, upd_same, by rw [hgd.2]; exact h64, fun ns p h1 h2 h3 hp => ?_⟩) (by rw [wipe_length]; exact A1.en.len.symm)
            · obtain ⟨q, hq1, hq2⟩ := rr.getV hv
              obtain ⟨xs, ms, rfl, h2, h3⟩ := hget i q hq1
              rw [hns] at h3
              cases h3
              obtain ⟨r, vs', rfl, hsq, hrl⟩ := hq2.sqT
              have e9 := intsOf_rep h2 hrl
              subst e9
              exact ⟨r, rfl, by rw [← hK]; exact hsq⟩
            · have e9 : ns = srtI nss.flatten := ris_uniq h1 (srtI_all _).1 fun k => by rw [h2 k, hgd.1 k, (srtI_all _).2 k]
              subst e9
              have A2 : At z.K z.G0 (G1.fresh D (SetO X.w D S n)) S1 env1 σ := A1.fresh hD
              have A3 : At z.K z.G0 ((G1.fresh D (SetO X.w D S n)).fresh p (.lst ((srtI nss.flatten).map V.int))) S1 env1 σ := A2.fresh hp
              have al := A2.alone (vs := (srtI nss.flatten).map V.int) hp
              exact P2 p _ _ (m1.trans (((Ext.fresh hD).mon A1.sure).trans ((Ext.fresh hp).mon A2.sure))) A3 (RepL.ints _) al.at_ al.nf al.nm al.n0 al.no
          cases p with
          | tup xs =>
            cases e1
            refine .inr ⟨G, env, S, rfl, A, ?_⟩
            rw [e]
            intro v G1 m1 A1 r1
            obtain ⟨c, vs, rfl, hsq, rr⟩ := r1.sqT
            rw [hK] at hsq
            exact ⟨c, rfl, ⟨vs, hsq⟩, go _ G1 vs m1 A1 rr (fun D o i x hD hx => itt_go hD hsq o i x hx) fun D o i hD hi => ⟨vs, sqT_upd hD hsq, hi⟩⟩
          | lst xs =>
            cases e1
            refine .inl ⟨G, env, S, rfl, A, ?_⟩
            rw [e]
            intro v G1 m1 A1 r1
            obtain ⟨c, vs, rfl, hsq, rr⟩ := r1.sqL
            have hsq := SqL.of (K := X.K) hsq
            exact ⟨c, rfl, ⟨vs, hsq⟩, go _ G1 vs m1 A1 rr (fun D o i x hD hx => itl_go hD hsq o i x hx) fun D o i hD hi => ⟨vs, sqL_upd hD hsq, hi⟩⟩
          | _ => cases e1
        · simp only [if_neg hcnd] at P1
          exact P1.elim
end
end FS
set_option Elab.async false
set_option linter.all false
set_option maxRecDepth 100000
set_option maxHeartbeats 2000000
/-! FsAug: max of a list of ints with a default; o[i] += e; a, b, c = (a new list), [], e. -/
namespace FS
open PySem PySem.Spec PyProof PyProof.Rows L2
/-! ### max(l, default=d) -/
section
variable {X : Cx} {z : Zx} {x : Str} {e e2 : Expr} {da db dv di : Cd PV} {p pos kpos p1 tpos : Pos}
/-! ### o[i] += e, o a list that its name alone holds -/
/-! ### a, b, c = (a new list), [], e -/
theorem Alone.later {G : Wd} {env : Env} {σ : L2.St} {a b : Addr} {vs : List V} {o : HO} (al : Alone z G env σ a vs) (hn : G.H b = none) : Alone z (G.fresh b o) env σ a vs := by
  have hb : a ≠ b := fun e => by
    have h := al.at_
    rw [e, hn] at h
    cases h
  exact ⟨(upd_ne hb).trans al.at_, al.nf, al.nm, al.n0, al.no⟩
end
end FS
set_option Elab.async false
set_option linter.all false
set_option maxRecDepth 100000
set_option maxHeartbeats 2000000
/-! FsUnl: a, b, .. = a list. -/
namespace FS
open PySem PySem.Spec PyProof.Rows L2
end FS
set_option Elab.async false
set_option linter.all false
set_option maxRecDepth 100000
set_option maxHeartbeats 2000000
/-! FsOwnIt: a comprehension over a list that its name alone holds. -/
namespace FS
open PySem PySem.Spec PyProof.Rows L2
end FS
set_option Elab.async false
set_option linter.all false
set_option maxRecDepth 100000
set_option maxHeartbeats 2000000
/-! FsRem: l.remove(x), x in l; a, b, c = (a new list), [], []. -/
namespace FS
open PySem PySem.Spec PyProof.Rows L2
section
variable {X : Cx}
def MthK (X : Cx) (K : PySem.W.Frag) (id : String) (mf : List PV → List PV → Option (PV × List PV)) : Prop :=
  ∃ r : V → List V → Hp → VK → Prop, MtR X id r ∧ ∀ (G : Wd) (a : Addr) (vs : List V) (xs ps : List PV) (ws : List V) (w : PV) (xs' : List PV) (Q : VK), mf xs ps = some (w, xs') → G.H a = some (.lst vs) → RepL K G xs vs → RepL K G ps ws →
    (∀ v vs', Rep K G w v → RepL K G xs' vs' → Q v (upd G.H a (.lst vs'))) → r (.ref a) ws G.H Q
end
end FS
set_option Elab.async false
set_option linter.all false
set_option maxRecDepth 100000
/-! FsForD: `for x in [f, g, h]` over defs, and calls of the name x; statements that no run reaches. -/
namespace FS
open PySem PySem.Spec L2
open LamX (Tabs)
/-- the def at an address -/
structure DfA (P : Program) (w : World) (K : PySem.W.Frag) (mg : Str → Option Value) (base : Heap) (k : Nat) (f : Addr) (n : Nat) (den : List PV → Stt → Res) : Prop where
  ex : ∃ (fd : FuncData) (ps : List Str), FnOk P w K mg base (L2.CX P w) k f fd ps (spD K mg n den) ∧ PySem.W.keepIn K (.ref f) = true ∧ Binds K fd ps []
structure DfTA (P : Program) (w : World) (K : PySem.W.Frag) (mg : Str → Option Value) (base : Heap) (T : List (Addr × Str)) (k : Nat) (f : Addr) (n : Nat) (den : List PV → Stt → Res) : Prop where
  ex : ∃ (fd : FuncData) (ps : List Str), FnOk P w K mg base (L2.CX P w) k f fd ps (spDT K mg T n den) ∧ PySem.W.keepIn K (.ref f) = true ∧ Binds K fd ps []
section
variable {P : Program} {w : World} {K : PySem.W.Frag} {mg : Str → Option Value} {base : Heap} {T : List (Addr × Str)} {k n : Nat} {x : Str} {den : List PV → Stt → Res}
theorem Df.at (D : Df P w K mg base k x n den) : ∃ f, mg x = some (.ref f) ∧ DfA P w K mg base k f n den := by
  obtain ⟨f, fd, ps, F, hm, hk, hb⟩ := D.ex
  exact ⟨f, hm, ⟨fd, ps, F, hk, hb⟩⟩
theorem DfT.at (D : DfT P w K mg base T k x n den) : ∃ f, mg x = some (.ref f) ∧ DfTA P w K mg base T k f n den := by
  obtain ⟨f, fd, ps, F, hm, hk, hb⟩ := D.ex
  exact ⟨f, hm, ⟨fd, ps, F, hk, hb⟩⟩
end
/-! ### the loop -/
end FS
set_option Elab.async false
set_option linter.all false
set_option maxRecDepth 100000
/-! FsWp2: rules for what FsOwn, FsEnum and FsZip add. -/
namespace FS
open PySem L2
section
variable {α β : Type} {e : Env} {s : Stt} {R : Pr} {Q : Pq PV} {QL : Pq (List PV)} {QS : Pq Flw} {i j : Nat}
theorem wp_lenO {xs : List PV} (h : e[i]? = some (.own xs)) (hq : Q (.int xs.length) e s) : Wp (dLenO i e s) Q R := by
  unfold dLenO
  rw [h]
  exact hq
theorem wp_lenV {p : PV} (h : e[i]? = some (.val p)) (hq : Wp (dFn fLen (dCons (dUse i) dNil) e s) Q R) : Wp (dLenO i e s) Q R := by
  unfold dLenO
  rw [h]
  exact hq
theorem wp_ixO {ys : List PV} {db : Cd PV} (h : e[i]? = some (.own ys)) (hq : Wp (db e s) (fun k e s => ∃ xs j w, e[i]? = some (.own xs) ∧ k = .int j ∧ atI xs j = some w ∧ Q w e s) R) : Wp (dIxO i db e s) Q R := by
  unfold dIxO
  simp only [h]
  refine wp_bnd (Wp.mono hq (fun k e1 s1 ⟨xs, j, w, h1, h2, h3, h4⟩ => ?_) fun _ _ _ _ h => h)
  subst h2
  simp only [h1, h3]
  exact h4
theorem wp_ixV {p : PV} {db : Cd PV} (h : e[i]? = some (.val p)) (hq : Wp (dOp pIx (dUse i) db e s) Q R) : Wp (dIxO i db e s) Q R := by
  unfold dIxO
  simp only [h]
  exact hq
theorem wp_inO {neg : Bool} {da : Cd PV} (hq : Wp (da e s) (fun p e s => (∃ xs w, e[i]? = some (.own xs) ∧ inL neg p xs = some w ∧ Q w e s) ∨ (∃ q w, e[i]? = some (.val q) ∧ (if neg then pNotInA s p q else pInA s p q) = some w ∧ Q w e s)) R) : Wp (dInO neg da i e s) Q R := by
  refine wp_bnd (Wp.mono hq (fun p e1 s1 h => ?_) fun _ _ _ _ h => h)
  rcases h with ⟨xs, w, h1, h2, h3⟩ | ⟨q, w, h1, h2, h3⟩
  · simp only [h1, h2]
    exact h3
  · simp only [h1, h2]
    exact h3
theorem wp_mulL {da db : Cd PV} (h : Wp (da e s) (fun p e s => Wp (db e s) (fun q e s => ∃ xs k, p = .lst xs ∧ q = .int k ∧ (k < 1048576 ∧ -1048576 < k ∧ xs.length * k.toNat ≤ sizeLine) ∧ QL (List.replicate k.toNat xs).flatten e s) R) R) : Wp (dMulL da db e s) QL R := by
  refine wp_bnd (Wp.mono h (fun p e1 s1 h1 => wp_bnd (Wp.mono h1 (fun q e2 s2 ⟨xs, k, h2, h3, h4, h5⟩ => ?_) fun _ _ _ _ h => h)) fun _ _ _ _ h => h)
  subst h2 h3
  simp only [if_pos h4]
  exact h5
theorem wp_catL {da db : Cd PV} (h : Wp (da e s) (fun p e s => Wp (db e s) (fun q e s => ∃ xs ys, p = .lst xs ∧ q = .lst ys ∧ xs.length + ys.length ≤ sizeLine ∧ QL (xs ++ ys) e s) R) R) : Wp (dCatL da db e s) QL R := by
  refine wp_bnd (Wp.mono h (fun p e1 s1 h1 => wp_bnd (Wp.mono h1 (fun q e2 s2 ⟨xs, k, h2, h3, h4, h5⟩ => ?_) fun _ _ _ _ h => h)) fun _ _ _ _ h => h)
  subst h2 h3
  simp only [if_pos h4]
  exact h5
theorem wp_cutL {d : Cd PV} {l h' : Cd (Option Int)} (h : Wp (d e s) (fun p e s => Wp (l e s) (fun l e s => Wp (h' e s) (fun u e s => ∃ xs, p = .lst xs ∧ QL (cutP xs l u) e s) R) R) R) : Wp (dCutL d l h' e s) QL R := by
  refine wp_bnd (Wp.mono h (fun p e1 s1 h1 => wp_bnd (Wp.mono h1 (fun l e2 s2 h2 => wp_bnd (Wp.mono h2 (fun u e3 s3 ⟨xs, h3, h4⟩ => ?_) fun _ _ _ _ h => h)) fun _ _ _ _ h => h)) fun _ _ _ _ h => h)
  subst h3
  exact h4
theorem wp_rngL {d : Cd (List PV)} (h : Wp (d e s) (fun ps e s => ∃ j, ps = [.int j] ∧ (okR j = true ∧ j ≤ 16777216) ∧ QL ((List.range j.toNat).map fun (i : Nat) => PV.int i) e s) R) : Wp (dRngL d e s) QL R := by
  refine wp_bnd (Wp.mono h (fun ps e1 s1 ⟨j, h1, h2, h3⟩ => ?_) fun _ _ _ _ h => h)
  subst h1
  simp only [if_pos h2]
  exact h3
theorem wp_ownNil {d : Cd (List PV)} (h : Wp (d e s) (fun xs e s => QS .next ((e.set i (.own xs)).set j (.own [])) s) R) : Wp (dOwnNil i j d e s) QS R := wp_bnd h
theorem wp_setNil {d : Cd PV} (h : Wp (d e s) (fun p e s => QS .next ((e.set i (.val p)).set j (.own [])) s) R) : Wp (dSetNil i j d e s) QS R := wp_bnd h
theorem wp_zipM {d : Cd (List PV)} {Q : Pq (List PV)} (h : Wp (d e s) (fun ps e s => ∃ xs, zipM ps = some xs ∧ Q xs e s) R) : Wp (dZipM d e s) Q R := wp_bnd (Wp.mono h (fun p e1 s1 ⟨xs, q, h1⟩ => wp_lift q h1) fun _ _ _ _ h => h)
theorem wp_enum {d : Cd (List PV)} {Q : Pq (List PV)} (h : Wp (d e s) (fun ps e s => ∃ xs, enumP ps = some xs ∧ Q xs e s) R) : Wp (dEnum d e s) Q R := wp_bnd (Wp.mono h (fun p e1 s1 ⟨xs, q, h1⟩ => wp_lift q h1) fun _ _ _ _ h => h)
theorem x_enum {p : PV} {xs : List PV} {Q : List PV → Prop} (h1 : itemsF p = some xs) (h : Q (enumL xs)) : ∃ zs, enumP [p] = some zs ∧ Q zs := ⟨_, by
  show (itemsF p).map enumL = _
  rw [h1]
  rfl, h⟩
theorem enumL_get {xs : List PV} {i : Nat} {p : PV} (h : (enumL xs)[i]? = some p) : ∃ x, xs[i]? = some x ∧ p = .tuz [.int i, x] := by
  unfold enumL at h
  rw [List.getElem?_map, List.getElem?_zipIdx] at h
  cases q : xs[i]? with
  | none => rw [q] at h; cases h
  | some x =>
    rw [q] at h
    simp only [Option.map_some, Nat.zero_add] at h
    exact ⟨x, rfl, (Option.some.inj h).symm⟩
theorem x_rev {xs : List PV} {Q : PV → Prop} (h : Q (.tup xs.reverse)) : ∃ w, pRev (.tup xs) = some w ∧ Q w := ⟨_, rfl, h⟩
theorem x_revL {xs : List PV} {Q : PV → Prop} (h : Q (.lst xs.reverse)) : ∃ w, pRev (.lst xs) = some w ∧ Q w := ⟨_, rfl, h⟩
end
/-- what a place holds -/
def LkS (o : Option Slot) (K1 : PV → Prop) (K2 : List PV → Prop) : Prop := (∃ p, o = some (.val p) ∧ K1 p) ∨ ∃ xs, o = some (.own xs) ∧ K2 xs
theorem lks_v {o : Option Slot} {K1 : PV → Prop} {K2 : List PV → Prop} {p : PV} (h : o = some (.val p)) (k : K1 p) : LkS o K1 K2 := .inl ⟨p, h, k⟩
theorem lks_o {o : Option Slot} {K1 : PV → Prop} {K2 : List PV → Prop} {xs : List PV} (h : o = some (.own xs)) (k : K2 xs) : LkS o K1 K2 := .inr ⟨xs, h, k⟩
section
variable {e : Env} {s : Stt} {R : Pr} {Q : Pq PV} {i : Nat}
theorem wp_useL (h : LkS e[i]? (fun p => Q p e s) (fun xs => Q (.lst xs) (e.set i (.val (.lst xs))) s)) : Wp (dUse i e s) Q R := by
  rcases h with ⟨p, h1, h2⟩ | ⟨xs, h1, h2⟩
  · exact wp_use h1 h2
  · exact wp_useO h1 h2
theorem wp_lenL (h : LkS e[i]? (fun _ => Wp (dFn fLen (dCons (dUse i) dNil) e s) Q R) (fun xs => Q (.int xs.length) e s)) : Wp (dLenO i e s) Q R := by
  rcases h with ⟨p, h1, h2⟩ | ⟨xs, h1, h2⟩
  · exact wp_lenV h1 h2
  · exact wp_lenO h1 h2
theorem wp_ixL {db : Cd PV} (h : LkS e[i]? (fun _ => Wp (dOp pIx (dUse i) db e s) Q R) (fun _ => Wp (db e s) (fun k e s => ∃ xs j w, e[i]? = some (.own xs) ∧ k = .int j ∧ atI xs j = some w ∧ Q w e s) R)) : Wp (dIxO i db e s) Q R := by
  rcases h with ⟨p, h1, h2⟩ | ⟨xs, h1, h2⟩
  · exact wp_ixV h1 h2
  · exact wp_ixO h1 h2
theorem wp_mthL {mf : List PV → List PV → Option (PV × List PV)} {d : Cd (List PV)} (h : LkS e[i]? (fun _ => False) (fun _ => Wp (d e s) (fun ps e s => ∃ xs w xs', e[i]? = some (.own xs) ∧ mf xs ps = some (w, xs') ∧ Q w (e.set i (.own xs')) s) R)) : Wp (dMthO i mf d e s) Q R := by
  rcases h with ⟨p, h1, h2⟩ | ⟨xs, h1, h2⟩
  · exact h2.elim
  · exact wp_mthO h1 h2
theorem wp_gtupC {n : Nat} {gs : List PV → Cd Unit} {ps : List PV} {Q : Pq Unit} (hl : ps.length = n) (h : Wp (gs ps e s) Q R) : Wp (gTupD n gs (.tup ps) e s) Q R := wp_gtup rfl hl h
theorem wp_gtupZ {n : Nat} {gs : List PV → Cd Unit} {ps : List PV} {Q : Pq Unit} (hl : ps.length = n) (h : Wp (gs ps e s) Q R) : Wp (gTupD n gs (.tuz ps) e s) Q R := by
  unfold gTupD
  simp only [hl, if_true]
  exact h
end
theorem x_own1 {o : Option Slot} {ys : List PV} {A : List PV → Prop} (h : o = some (.own ys)) (k : A ys) : ∃ ys, o = some (.own ys) ∧ A ys := ⟨ys, h, k⟩
theorem x_setO {e : Env} {i : Nat} {k : PV} {xs : List PV} {j : Int} {m : Nat} {A : List PV → Nat → Prop} (h1 : e[i]? = some (.own xs)) (h2 : k = .int j) (h3 : ixN xs.length j = some m) (h : A xs m) : ∃ xs j m, e[i]? = some (.own xs) ∧ k = .int j ∧ ixN xs.length j = some m ∧ A xs m := ⟨xs, j, m, h1, h2, h3, h⟩
theorem x_tupf {s : Stt} {p : List PV} {w : PV} {Q : PV → Prop} (hf : fTuple s p = some w) (h : Q w) : ∃ w, fTuple s p = some w ∧ Q w := ⟨w, hf, h⟩
theorem x_minf {s : Stt} {p : List PV} {w : PV} {Q : PV → Prop} (hf : fMin s p = some w) (h : Q w) : ∃ w, fMin s p = some w ∧ Q w := ⟨w, hf, h⟩
theorem x_maxf {s : Stt} {p : List PV} {w : PV} {Q : PV → Prop} (hf : fMax s p = some w) (h : Q w) : ∃ w, fMax s p = some w ∧ Q w := ⟨w, hf, h⟩
theorem Wp.mono' {α : Type} {e : Env} {s : Stt} {d : Cd α} (Q : Pq α) (R : Pr) {Q' : Pq α} {R' : Pr} (h : Wp (d e s) Q R) (hq : ∀ a e s, Q a e s → Q' a e s) (hr : ∀ c w e s, R c w e s → R' c w e s) : Wp (d e s) Q' R' := Wp.mono h hq hr
theorem pAdd_lst (S : Stt) (xs ys : List PV) (h : xs.length + ys.length ≤ sizeLine) : pAdd S (.lst xs) (.lst ys) = some (.lst (xs ++ ys)) := by
  show (if xs.length + ys.length ≤ sizeLine then some (PV.lst (xs ++ ys)) else none) = _
  rw [if_pos h]
theorem x_addL {s : Stt} {xs ys : List PV} {Q : PV → Prop} (h : xs.length + ys.length ≤ sizeLine) (hq : Q (.lst (xs ++ ys))) : ∃ w, pAdd s (.lst xs) (.lst ys) = some w ∧ Q w := ⟨_, pAdd_lst s xs ys h, hq⟩
/-- xs[:n] -/
theorem cut_to (xs : List PV) (n : Nat) : cutP xs none (some (n : Int)) = xs.take n := by
  unfold cutP
  rw [HT.sIx_nat, HT.sIx_none]
  simp only [List.drop_zero, Nat.sub_zero]
  by_cases h : n ≤ xs.length
  · rw [Nat.min_eq_left h]
  · rw [Nat.min_eq_right (by omega), List.take_of_length_le (Nat.le_refl _), List.take_of_length_le (by omega)]
end FS
set_option Elab.async false
set_option linter.all false
set_option maxRecDepth 100000
/-! FsWp3: the rules for try with several clauses, for lambdas, for a, b, c = x, y, z. -/
namespace FS
open PySem L2
section
variable {α β : Type} {e : Env} {s : Stt} {R : Pr} {QS : Pq Flw} {Q : Pq PV}
theorem wp_par3 {i j l : Nat} {d : Cd (List PV)} (h : Wp (d e s) (fun ps e s => ∃ p q r, ps = [p, q, r] ∧ QS .next (((e.set i (.val p)).set j (.val q)).set l (.val r)) s) R) : Wp (dPar3 i j l d e s) QS R :=
  wp_bnd (Wp.mono h (fun ps e1 s1 ⟨p, q, r, e2, h2⟩ => by
    subst e2
    exact h2) fun _ _ _ _ h => h)
theorem x_par3 {p q r : PV} {Q : PV → PV → PV → Prop} (h : Q p q r) : ∃ p' q' r', [p, q, r] = [p', q', r'] ∧ Q p' q' r' := ⟨p, q, r, rfl, h⟩
end
end FS
set_option Elab.async false
set_option linter.all false
set_option maxRecDepth 100000
/-! FsWp4: the rules for sum, range with a step, new lists side by side. -/
namespace FS
open PySem L2
section
variable {α β : Type} {e : Env} {s : Stt} {R : Pr} {QS : Pq Flw} {Q : Pq PV} {i j l : Nat}
theorem wp_rng3 {d : Cd (List PV)} {Q : Pq (List PV)} (h : Wp (d e s) (fun ps e s => ∃ xs, rng3 ps = some xs ∧ Q xs e s) R) : Wp (dRng3 d e s) Q R :=
  wp_bnd (Wp.mono h (fun ps e1 s1 ⟨xs, e2, h2⟩ => wp_lift e2 h2) fun _ _ _ _ h => h)
theorem wp_ownSet {da : Cd (List PV)} {db : Cd PV} (h : Wp (da e s) (fun xs e s => Wp (db e s) (fun q e s => QS .next ((e.set i (.own xs)).set j (.val q)) s) (fun _ _ _ _ => False)) R) : Wp (dOwnSet i j da db e s) QS R :=
  wp_bnd (Wp.mono h (fun xs e1 s1 h1 => by
    show Wp (match db e1 s1 with | .ok q e s => .ok .next ((e.set i (.own xs)).set j (.val q)) s | _ => .bad) QS R
    cases q : db e1 s1 with
    | bad => rw [q] at h1; exact h1.elim
    | raise c w e2 s2 => rw [q] at h1; exact h1.elim
    | ok p e2 s2 => rw [q] at h1; exact h1) fun _ _ _ _ h => h)
theorem wp_setOwnNil {da : Cd PV} {db : Cd (List PV)} (h : Wp (da e s) (fun p e s => Wp (db e s) (fun xs e s => QS .next (((e.set i (.val p)).set j (.own xs)).set l (.own [])) s) R) R) : Wp (dSetOwnNil i j l da db e s) QS R :=
  wp_bnd (Wp.mono h (fun p e1 s1 h1 => wp_bnd (Wp.mono h1 (fun xs e2 s2 h2 => h2) fun _ _ _ _ h => h)) fun _ _ _ _ h => h)
theorem x_sumL {s : Stt} {xs : List PV} {ns : List Int} {Q : PV → Prop} (h : intsOf xs = some ns) (hq : Q (.int ns.sum)) : ∃ w, fSum s [.lst xs] = some w ∧ Q w := ⟨_, by
  show (intsOf xs).map (fun ns => PV.int ns.sum) = _
  rw [h]
  rfl, hq⟩
theorem intsOf_map : ∀ ns : List Int, intsOf (ns.map PV.int) = some ns
  | [] => rfl
  | n :: ns => by
    show (intsOf (ns.map PV.int)).map (n :: ·) = _
    rw [intsOf_map ns]
    rfl
end
end FS
set_option Elab.async false
set_option linter.all false
set_option maxRecDepth 100000
/-! FsWp5: count, sum and all of generator expressions. -/
namespace FS
open PySem L2
section
variable {α β : Type} {e : Env} {s : Stt} {R : Pr} {QS : Pq Flw} {Q : Pq PV}
theorem wp_count {da : Cd PV} {db : Cd (List PV)} (h : Wp (da e s) (fun p e s => ∃ xs ns, p = .tup xs ∧ intsOf xs = some ns ∧ Wp (db e s) (fun qs e s => ∃ i, qs = [.int i] ∧ Q (.int (ns.count i : Nat)) e s) R) R) : Wp (dCount da db e s) Q R :=
  wp_bnd (Wp.mono h (fun p e1 s1 ⟨xs, ns, h1, h2, h3⟩ => by
    subst h1
    simp only [h2]
    exact wp_bnd (Wp.mono h3 (fun qs e2 s2 ⟨i, h4, h5⟩ => by
      subst h4
      exact h5) fun _ _ _ _ h => h)) fun _ _ _ _ h => h)
theorem wp_sumG {d : Cd (List PV)} {q : Env → PV → Option PV} (h : Wp (d e s) (fun ps e s => ∃ rs ns, qMap q e ps = some rs ∧ intsOf rs = some ns ∧ few ns = true ∧ Q (.int ns.sum) e s) R) : Wp (dSumG d q e s) Q R :=
  wp_bnd (Wp.mono h (fun ps e1 s1 ⟨rs, ns, h1, h2, h3, h4⟩ => by
    simp only [h1, Option.bind_some, h2, h3, if_true]
    exact h4) fun _ _ _ _ h => h)
theorem wp_allG {d : Cd (List PV)} {q : Env → PV → Option PV} (h : Wp (d e s) (fun ps e s => ∃ rs bs, qMap q e ps = some rs ∧ blsOf rs = some bs ∧ Q (.bl (bs.all id)) e s) R) : Wp (dAllG d q e s) Q R :=
  wp_bnd (Wp.mono h (fun ps e1 s1 ⟨rs, ns, h1, h2, h4⟩ => by
    simp only [h1, Option.bind_some, h2]
    exact h4) fun _ _ _ _ h => h)
end
end FS
set_option Elab.async false
set_option linter.all false
set_option maxRecDepth 100000
/-! FsWp6: the rules of FsAug. -/
namespace FS
open PySem L2
end FS
set_option Elab.async false
set_option linter.all false
set_option maxRecDepth 100000
/-! FsWp7: the rules of FsUnl, FsOwnIt, FsRem. -/
namespace FS
open PySem L2
end FS
set_option Elab.async false
set_option linter.all false
set_option maxRecDepth 100000
/-! FsWp8: the rules of FsGc5, FsMet3. -/
namespace FS
open PySem L2
section
variable {α β : Type} {e : Env} {s : Stt} {R : Pr} {QS : Pq Flw} {Q : Pq PV} {QL : Pq (List PV)}
theorem wp_met {a b : Nat} {d : Cd PV} (h : Wp (d e s) (fun p e s => ∃ nss, (seqF p).bind rowsI = some nss ∧ ((srtI nss.flatten).length < 64 ∧ a < e.length ∧ b < e.length ∧ a ≠ b) ∧ QL ((srtI nss.flatten).map PV.int) e s) R) : Wp (dMet a b d e s) QL R :=
  wp_bnd (Wp.mono h (fun p e1 s1 ⟨nss, h1, h2, h3⟩ => by
    show Wp (match (seqF p).bind rowsI with
      | some nss => if (srtI nss.flatten).length < 64 ∧ a < e1.length ∧ b < e1.length ∧ a ≠ b then Out.ok ((srtI nss.flatten).map PV.int) e1 s1 else .bad
      | none => .bad) QL R
    rw [h1]
    simp only [if_pos h2]
    exact h3) fun _ _ _ _ h => h)
end
end FS
set_option Elab.async false
set_option linter.all false
set_option maxRecDepth 100000
/-! FsWi: the rules of FsWp and FsWp2 over a predicate that Lean does not run (printed by our wi.py). -/
namespace FS
open PySem L2
namespace I
/-- as FS.Wp, but nobody looks into it -/
@[irreducible] def Wp {α : Type} (o : Out α) (Q : Pq α) (R : Pr) : Prop := FS.Wp o Q R
theorem Wp_eq {α : Type} (o : Out α) (Q : Pq α) (R : Pr) : Wp o Q R = FS.Wp o Q R := by unfold Wp; rfl
section
variable {α β : Type} {e : Env} {s : Stt} {R : Pr}
theorem Wp.mono {o : Out α} {Q Q' : Pq α} {R R' : Pr} (h : Wp o Q R) (hq : ∀ a e s, Q a e s → Q' a e s) (hr : ∀ c w e s, R c w e s → R' c w e s) : Wp o Q' R' := by
  simp only [Wp_eq] at *
  exact FS.Wp.mono h hq hr
theorem wp_ret {a : α} {Q : Pq α} (h : Q a e s) : Wp (ret a e s) Q R := by
  simp only [Wp_eq] at *
  exact FS.wp_ret h
variable {Q : Pq PV}
theorem wp_use {i : Nat} {p : PV} (h : e[i]? = some (.val p)) (hq : Q p e s) : Wp (dUse i e s) Q R := by
  simp only [Wp_eq] at *
  exact FS.wp_use h hq
theorem wp_useO {i : Nat} {xs : List PV} (h : e[i]? = some (.own xs)) (hq : Q (.lst xs) (e.set i (.val (.lst xs))) s) : Wp (dUse i e s) Q R := by
  simp only [Wp_eq] at *
  exact FS.wp_useO h hq
theorem wp_op {f : Stt → PV → PV → Option PV} {a b : Cd PV} (h : Wp (a e s) (fun p e s => Wp (b e s) (fun q e s => ∃ w, f s p q = some w ∧ Q w e s) R) R) : Wp (dOp f a b e s) Q R := by
  simp only [Wp_eq] at *
  exact FS.wp_op h
theorem wp_un {f : PV → Option PV} {a : Cd PV} (h : Wp (a e s) (fun p e s => ∃ w, f p = some w ∧ Q w e s) R) : Wp (dUn f a e s) Q R := by
  simp only [Wp_eq] at *
  exact FS.wp_un h
theorem wp_nil {Q : Pq (List PV)} (h : Q [] e s) : Wp (dNil e s) Q R := by
  simp only [Wp_eq] at *
  exact FS.wp_nil h
theorem wp_cons {a : Cd PV} {r : Cd (List PV)} {Q : Pq (List PV)} (h : Wp (a e s) (fun p e s => Wp (r e s) (fun ps e s => Q (p :: ps) e s) R) R) : Wp (dCons a r e s) Q R := by
  simp only [Wp_eq] at *
  exact FS.wp_cons h
theorem wp_tup {d : Cd (List PV)} (h : Wp (d e s) (fun ps e s => ps.length ≤ sizeLine ∧ Q (.tup ps) e s) R) : Wp (dTup d e s) Q R := by
  simp only [Wp_eq] at *
  exact FS.wp_tup h
theorem wp_disp {d : Cd (List PV)} {Q : Pq (List PV)} (h : Wp (d e s) (fun ps e s => ps.length ≤ sizeLine ∧ Q ps e s) R) : Wp (dDisp d e s) Q R := by
  simp only [Wp_eq] at *
  exact FS.wp_disp h
theorem wp_frz {d : Cd (List PV)} (h : Wp (d e s) (fun ps e s => Q (.lst ps) e s) R) : Wp (dFrz d e s) Q R := by
  simp only [Wp_eq] at *
  exact FS.wp_frz h
theorem wp_new {d : Cd (List PV)} (h : Wp (d e s) (fun xs e s => Q (.ref s.length) e (s ++ [.lst xs])) R) : Wp (dNew d e s) Q R := by
  simp only [Wp_eq] at *
  exact FS.wp_new h
theorem wp_b {d : Cd PV} {Q : Pq Bool} (h : Wp (d e s) (fun p e s => ∃ b, asB p = some b ∧ Q b e s) R) : Wp (dB d e s) Q R := by
  simp only [Wp_eq] at *
  exact FS.wp_b h
theorem wp_tru {d : Cd PV} {Q : Pq Bool} (h : Wp (d e s) (fun p e s => ∃ b, tru s p = some b ∧ Q b e s) R) : Wp (dTru d e s) Q R := by
  simp only [Wp_eq] at *
  exact FS.wp_tru h
theorem wp_notT {d : Cd Bool} {Q : Pq Bool} (h : Wp (d e s) (fun b e s => Q (!b) e s) R) : Wp (dNotT d e s) Q R := by
  simp only [Wp_eq] at *
  exact FS.wp_notT h
theorem wp_andT {d r : Cd Bool} {Q : Pq Bool} (h : Wp (d e s) (fun b e s => (b = true → Wp (r e s) Q R) ∧ (b = false → Q false e s)) R) : Wp (dAndT d r e s) Q R := by
  simp only [Wp_eq] at *
  exact FS.wp_andT h
theorem wp_orT {d r : Cd Bool} {Q : Pq Bool} (h : Wp (d e s) (fun b e s => (b = true → Q true e s) ∧ (b = false → Wp (r e s) Q R)) R) : Wp (dOrT d r e s) Q R := by
  simp only [Wp_eq] at *
  exact FS.wp_orT h
theorem wp_andV {d r : Cd PV} (h : Wp (d e s) (fun p e s => ∃ b, asB p = some b ∧ (b = true → Wp (r e s) Q R) ∧ (b = false → Q (.bl false) e s)) R) : Wp (dAndV d r e s) Q R := by
  simp only [Wp_eq] at *
  exact FS.wp_andV h
theorem wp_orV {d r : Cd PV} (h : Wp (d e s) (fun p e s => ∃ b, asB p = some b ∧ (b = true → Q (.bl true) e s) ∧ (b = false → Wp (r e s) Q R)) R) : Wp (dOrV d r e s) Q R := by
  simp only [Wp_eq] at *
  exact FS.wp_orV h
theorem wp_notV {d : Cd PV} (h : Wp (d e s) (fun p e s => ∃ b, asB p = some b ∧ Q (.bl (!b)) e s) R) : Wp (dNotV d e s) Q R := by
  simp only [Wp_eq] at *
  exact FS.wp_notV h
theorem wp_ife {t : Cd Bool} {a b : Cd PV} (h : Wp (t e s) (fun k e s => (k = true → Wp (a e s) Q R) ∧ (k = false → Wp (b e s) Q R)) R) : Wp (dIfE t a b e s) Q R := by
  simp only [Wp_eq] at *
  exact FS.wp_ife h
theorem wp_chain {f f' : Stt → PV → PV → Option PV} {a b c : Cd PV} (h : Wp (a e s) (fun p e s => Wp (b e s) (fun q e s => ∃ k, f s p q = some (.bl k) ∧ (k = true → Wp (c e s) (fun r e s => ∃ w, f' s q r = some w ∧ Q w e s) R) ∧ (k = false → Q (.bl false) e s)) R) R) : Wp (dChain f f' a b c e s) Q R := by
  simp only [Wp_eq] at *
  exact FS.wp_chain h
theorem wp_fn {g : Stt → List PV → Option PV} {d : Cd (List PV)} (h : Wp (d e s) (fun ps e s => ∃ w, g s ps = some w ∧ Q w e s) R) : Wp (dFn g d e s) Q R := by
  simp only [Wp_eq] at *
  exact FS.wp_fn h
theorem wp_call {n : Nat} {den : List PV → Stt → Res} {d : Cd (List PV)} (h : Wp (d e s) (fun ps e s => ps.length = n ∧ Fn (den ps s) (fun p s => Q p e s) (fun c w s => R c w e s)) R) : Wp (dCall n den d e s) Q R := by
  simp only [Wp_eq] at *
  exact FS.wp_call h
theorem wp_noPart {Q : Pq (Option Int)} (h : Q none e s) : Wp (dNoPart e s) Q R := by
  simp only [Wp_eq] at *
  exact FS.wp_noPart h
theorem wp_part {d : Cd PV} {Q : Pq (Option Int)} (h : Wp (d e s) (fun p e s => ∃ i, p = .int i ∧ Q (some i) e s) R) : Wp (dPart d e s) Q R := by
  simp only [Wp_eq] at *
  exact FS.wp_part h
theorem wp_cut {d : Cd PV} {l h' : Cd (Option Int)} (h : Wp (d e s) (fun p e s => Wp (l e s) (fun l e s => Wp (h' e s) (fun u e s => ∃ w, pCut s p l u = some w ∧ Q w e s) R) R) R) : Wp (dCut d l h' e s) Q R := by
  simp only [Wp_eq] at *
  exact FS.wp_cut h
theorem wp_list {d : Cd PV} {Q : Pq (List PV)} (h : Wp (d e s) (fun p e s => ∃ xs, itemsOf s p = some xs ∧ Q xs e s) R) : Wp (dListF d e s) Q R := by
  simp only [Wp_eq] at *
  exact FS.wp_list h
theorem wp_mthO {i : Nat} {mf : List PV → List PV → Option (PV × List PV)} {d : Cd (List PV)} {ys : List PV} (h0 : e[i]? = some (.own ys))
    (h : Wp (d e s) (fun ps e s => ∃ xs w xs', e[i]? = some (.own xs) ∧ mf xs ps = some (w, xs') ∧ Q w (e.set i (.own xs')) s) R) : Wp (dMthO i mf d e s) Q R := by
  simp only [Wp_eq] at *
  exact FS.wp_mthO h0 h
theorem wp_mthR {mf : List PV → List PV → Option (PV × List PV)} {o : Cd PV} {d : Cd (List PV)} (h : Wp (o e s) (fun p e s => ∃ n ys, p = .ref n ∧ s[n]? = some (.lst ys) ∧ Wp (d e s) (fun ps e s => ∃ xs w xs', s[n]? = some (.lst xs) ∧ mf xs ps = some (w, xs') ∧ Q w e (s.set n (.lst xs'))) R) R) : Wp (dMthR mf o d e s) Q R := by
  simp only [Wp_eq] at *
  exact FS.wp_mthR h
variable {QS : Pq Flw} {d : Cd PV}
theorem wp_nxt (h : QS .next e s) : Wp (nxt e s) QS R := by
  simp only [Wp_eq] at *
  exact FS.wp_nxt h
theorem wp_seq {a b : Cd Flw} (h : Wp (a e s) (SQ (fun e s => Wp (b e s) QS R) QS) R) : Wp (dSeq a b e s) QS R := by
  simp only [Wp_eq] at *
  exact FS.wp_seq h
theorem wp_drop (h : Wp (d e s) (fun _ e s => QS .next e s) R) : Wp (dDrop d e s) QS R := by
  simp only [Wp_eq] at *
  exact FS.wp_drop h
theorem wp_dret (h : Wp (d e s) (fun p e s => QS (.ret p) e s) R) : Wp (dRet d e s) QS R := by
  simp only [Wp_eq] at *
  exact FS.wp_dret h
theorem wp_if {t : Cd Bool} {a b : Cd Flw} (h : Wp (t e s) (fun k e s => (k = true → Wp (a e s) QS R) ∧ (k = false → Wp (b e s) QS R)) R) : Wp (dIf t a b e s) QS R := by
  simp only [Wp_eq] at *
  exact FS.wp_if h
theorem wp_set {i : Nat} (h : Wp (d e s) (fun p e s => QS .next (e.set i (.val p)) s) R) : Wp (dSet i d e s) QS R := by
  simp only [Wp_eq] at *
  exact FS.wp_set h
theorem wp_own {i : Nat} {d : Cd (List PV)} (h : Wp (d e s) (fun xs e s => QS .next (e.set i (.own xs)) s) R) : Wp (dOwn i d e s) QS R := by
  simp only [Wp_eq] at *
  exact FS.wp_own h
theorem wp_asg {g : PV → Cd Unit} (h : Wp (d e s) (fun p e s => Wp (g p e s) (fun _ e s => QS .next e s) R) R) : Wp (dAsg d g e s) QS R := by
  simp only [Wp_eq] at *
  exact FS.wp_asg h
theorem wp_gset {i : Nat} {p : PV} {Q : Pq Unit} (h : Q () (e.set i (.val p)) s) : Wp (gSet i p e s) Q R := by
  simp only [Wp_eq] at *
  exact FS.wp_gset h
theorem wp_gcons {g : PV → Cd Unit} {gs : List PV → Cd Unit} {p : PV} {ps : List PV} {Q : Pq Unit} (h : Wp (g p e s) (fun _ e s => Wp (gs ps e s) Q R) R) : Wp (gsCons g gs (p :: ps) e s) Q R := by
  simp only [Wp_eq] at *
  exact FS.wp_gcons h
theorem wp_gnil {Q : Pq Unit} (h : Q () e s) : Wp (gsNil [] e s) Q R := by
  simp only [Wp_eq] at *
  exact FS.wp_gnil h
theorem wp_par {i j : Nat} {d : Cd (List PV)} (h : Wp (d e s) (fun ps e s => ∃ p q, ps = [p, q] ∧ QS .next ((e.set i (.val p)).set j (.val q)) s) R) : Wp (dPar i j d e s) QS R := by
  simp only [Wp_eq] at *
  exact FS.wp_par h
theorem wp_setO {i : Nat} {di dv : Cd PV} (h : Wp (dv e s) (fun w e s => ∃ ys, e[i]? = some (.own ys) ∧ Wp (di e s) (fun k e s => ∃ xs j m, e[i]? = some (.own xs) ∧ k = .int j ∧ ixN xs.length j = some m ∧ QS .next (e.set i (.own (xs.set m w))) s) R) R) : Wp (dSetO i di dv e s) QS R := by
  simp only [Wp_eq] at *
  exact FS.wp_setO h
theorem wp_setR {o di dv : Cd PV} (h : Wp (dv e s) (fun w e s => Wp (o e s) (fun p e s => Wp (di e s) (fun k e s => ∃ n xs j m, p = .ref n ∧ k = .int j ∧ s[n]? = some (.lst xs) ∧ ixN xs.length j = some m ∧ QS .next e (s.set n (.lst (xs.set m w)))) R) R) R) : Wp (dSetR o di dv e s) QS R := by
  simp only [Wp_eq] at *
  exact FS.wp_setR h
theorem wp_raise {c : Str} (h : Wp (d e s) (fun p e s => R c p e s) R) : Wp (dRaise c d e s) QS R := by
  simp only [Wp_eq] at *
  exact FS.wp_raise h
theorem wp_for {it : Cd (List PV)} {g : PV → Cd Unit} {b : Cd Flw} (h : Wp (it e s) (fun ps e s => ∃ I : Nat → Env → Stt → Prop, I 0 e s ∧ (∀ (i : Nat) (p : PV) (e : Env) (s : Stt), ps[i]? = some p → I i e s → Wp (g p e s) (fun _ e s => Wp (b e s) (LQ (I (i + 1)) QS) R) R) ∧ ∀ e s, I ps.length e s → QS .next e s) R) :
    Wp (dFor it g b e s) QS R := by
  simp only [Wp_eq] at *
  exact FS.wp_for h
theorem wp_items {Q : Pq (List PV)} (h : Wp (d e s) (fun p e s => ∃ xs, itemsF p = some xs ∧ Q xs e s) R) : Wp (dItems d e s) Q R := by
  simp only [Wp_eq] at *
  exact FS.wp_items h
theorem wp_rng1 {d : Cd (List PV)} {Q : Pq (List PV)} (h : Wp (d e s) (fun ps e s => ∃ xs, rng1 ps = some xs ∧ Q xs e s) R) : Wp (dRng1 d e s) Q R := by
  simp only [Wp_eq] at *
  exact FS.wp_rng1 h
theorem wp_rng2 {d : Cd (List PV)} {Q : Pq (List PV)} (h : Wp (d e s) (fun ps e s => ∃ xs, rng2 ps = some xs ∧ Q xs e s) R) : Wp (dRng2 d e s) Q R := by
  simp only [Wp_eq] at *
  exact FS.wp_rng2 h
theorem wp_zip {d : Cd (List PV)} {Q : Pq (List PV)} (h : Wp (d e s) (fun ps e s => ∃ xs, zip2 ps = some xs ∧ Q xs e s) R) : Wp (dZip d e s) Q R := by
  simp only [Wp_eq] at *
  exact FS.wp_zip h
theorem wp_while {c : Cd Bool} {b : Cd Flw} (I : Env → Stt → Prop) (m : Env → Stt → Nat) (h0 : I e s)
    (h1 : ∀ e s, I e s → Wp (c e s) (fun k e1 s1 => (k = true → Wp (b e1 s1) (LQ (fun e2 s2 => I e2 s2 ∧ m e2 s2 < m e s) QS) R) ∧ (k = false → QS .next e1 s1)) R) : Wp (dWhile c b e s) QS R := by
  simp only [Wp_eq] at *
  exact FS.wp_while I m h0 h1
theorem fn_run {n k : Nat} {b : Cd Flw} {ps : List PV} {s : Stt} {Q : PV → Stt → Prop} {R : Str → PV → Stt → Prop} (hl : ps.length = k) (h : Wp (b (ps.map Slot.val ++ List.replicate (n - k) Slot.none) s) (FQ Q) (fun c w _ s => R c w s)) : Fn (runD n k b ps s) Q R := by
  simp only [Wp_eq] at *
  exact FS.fn_run hl h
theorem wp_comp {items : Cd (List PV)} {own : List Nat} {g : PV → Cd Unit} {t : Cd Bool} {d : Cd PV} {QL : Pq (List PV)}
    (h : Wp (items e s) (fun ps e1 s => ∃ I : Nat → List PV → Env → Stt → Prop, I 0 [] (wipeE e1 own) s ∧
      (∀ (i : Nat) (p : PV) (acc : List PV) (e : Env) (s : Stt), ps[i]? = some p → I i acc e s → Wp (g p e s) (fun _ e s => Wp (t e s) (fun k e s => (k = true → Wp (d e s) (fun w e s => acc.length < sizeLine ∧ I (i + 1) (acc ++ [w]) (wipeE e own) s) (fun _ _ _ _ => False)) ∧ (k = false → I (i + 1) acc (wipeE e own) s)) (fun _ _ _ _ => False)) (fun _ _ _ _ => False)) ∧
      ∀ acc e2 s, I ps.length acc e2 s → QL acc (restE e1 e2 own) s) R) : Wp (dComp items own g t d e s) QL R := by
  simp only [Wp_eq] at *
  exact FS.wp_comp h
end
section
variable {α β : Type} {e : Env} {s : Stt} {R : Pr} {Q : Pq PV} {QL : Pq (List PV)} {QS : Pq Flw} {i j : Nat}
theorem wp_lenO {xs : List PV} (h : e[i]? = some (.own xs)) (hq : Q (.int xs.length) e s) : Wp (dLenO i e s) Q R := by
  simp only [Wp_eq] at *
  exact FS.wp_lenO h hq
theorem wp_lenV {p : PV} (h : e[i]? = some (.val p)) (hq : Wp (dFn fLen (dCons (dUse i) dNil) e s) Q R) : Wp (dLenO i e s) Q R := by
  simp only [Wp_eq] at *
  exact FS.wp_lenV h hq
theorem wp_ixO {ys : List PV} {db : Cd PV} (h : e[i]? = some (.own ys)) (hq : Wp (db e s) (fun k e s => ∃ xs j w, e[i]? = some (.own xs) ∧ k = .int j ∧ atI xs j = some w ∧ Q w e s) R) : Wp (dIxO i db e s) Q R := by
  simp only [Wp_eq] at *
  exact FS.wp_ixO h hq
theorem wp_ixV {p : PV} {db : Cd PV} (h : e[i]? = some (.val p)) (hq : Wp (dOp pIx (dUse i) db e s) Q R) : Wp (dIxO i db e s) Q R := by
  simp only [Wp_eq] at *
  exact FS.wp_ixV h hq
theorem wp_inO {neg : Bool} {da : Cd PV} (hq : Wp (da e s) (fun p e s => (∃ xs w, e[i]? = some (.own xs) ∧ inL neg p xs = some w ∧ Q w e s) ∨ (∃ q w, e[i]? = some (.val q) ∧ (if neg then pNotInA s p q else pInA s p q) = some w ∧ Q w e s)) R) : Wp (dInO neg da i e s) Q R := by
  simp only [Wp_eq] at *
  exact FS.wp_inO hq
theorem wp_mulL {da db : Cd PV} (h : Wp (da e s) (fun p e s => Wp (db e s) (fun q e s => ∃ xs k, p = .lst xs ∧ q = .int k ∧ (k < 1048576 ∧ -1048576 < k ∧ xs.length * k.toNat ≤ sizeLine) ∧ QL (List.replicate k.toNat xs).flatten e s) R) R) : Wp (dMulL da db e s) QL R := by
  simp only [Wp_eq] at *
  exact FS.wp_mulL h
theorem wp_catL {da db : Cd PV} (h : Wp (da e s) (fun p e s => Wp (db e s) (fun q e s => ∃ xs ys, p = .lst xs ∧ q = .lst ys ∧ xs.length + ys.length ≤ sizeLine ∧ QL (xs ++ ys) e s) R) R) : Wp (dCatL da db e s) QL R := by
  simp only [Wp_eq] at *
  exact FS.wp_catL h
theorem wp_cutL {d : Cd PV} {l h' : Cd (Option Int)} (h : Wp (d e s) (fun p e s => Wp (l e s) (fun l e s => Wp (h' e s) (fun u e s => ∃ xs, p = .lst xs ∧ QL (cutP xs l u) e s) R) R) R) : Wp (dCutL d l h' e s) QL R := by
  simp only [Wp_eq] at *
  exact FS.wp_cutL h
theorem wp_rngL {d : Cd (List PV)} (h : Wp (d e s) (fun ps e s => ∃ j, ps = [.int j] ∧ (okR j = true ∧ j ≤ 16777216) ∧ QL ((List.range j.toNat).map fun (i : Nat) => PV.int i) e s) R) : Wp (dRngL d e s) QL R := by
  simp only [Wp_eq] at *
  exact FS.wp_rngL h
theorem wp_ownNil {d : Cd (List PV)} (h : Wp (d e s) (fun xs e s => QS .next ((e.set i (.own xs)).set j (.own [])) s) R) : Wp (dOwnNil i j d e s) QS R := by
  simp only [Wp_eq] at *
  exact FS.wp_ownNil h
theorem wp_setNil {d : Cd PV} (h : Wp (d e s) (fun p e s => QS .next ((e.set i (.val p)).set j (.own [])) s) R) : Wp (dSetNil i j d e s) QS R := by
  simp only [Wp_eq] at *
  exact FS.wp_setNil h
theorem wp_zipM {d : Cd (List PV)} {Q : Pq (List PV)} (h : Wp (d e s) (fun ps e s => ∃ xs, zipM ps = some xs ∧ Q xs e s) R) : Wp (dZipM d e s) Q R := by
  simp only [Wp_eq] at *
  exact FS.wp_zipM h
theorem wp_enum {d : Cd (List PV)} {Q : Pq (List PV)} (h : Wp (d e s) (fun ps e s => ∃ xs, enumP ps = some xs ∧ Q xs e s) R) : Wp (dEnum d e s) Q R := by
  simp only [Wp_eq] at *
  exact FS.wp_enum h
end
section
variable {e : Env} {s : Stt} {R : Pr} {Q : Pq PV} {i : Nat}
theorem wp_useL (h : LkS e[i]? (fun p => Q p e s) (fun xs => Q (.lst xs) (e.set i (.val (.lst xs))) s)) : Wp (dUse i e s) Q R := by
  simp only [Wp_eq] at *
  exact FS.wp_useL h
theorem wp_lenL (h : LkS e[i]? (fun _ => Wp (dFn fLen (dCons (dUse i) dNil) e s) Q R) (fun xs => Q (.int xs.length) e s)) : Wp (dLenO i e s) Q R := by
  simp only [Wp_eq] at *
  exact FS.wp_lenL h
theorem wp_ixL {db : Cd PV} (h : LkS e[i]? (fun _ => Wp (dOp pIx (dUse i) db e s) Q R) (fun _ => Wp (db e s) (fun k e s => ∃ xs j w, e[i]? = some (.own xs) ∧ k = .int j ∧ atI xs j = some w ∧ Q w e s) R)) : Wp (dIxO i db e s) Q R := by
  simp only [Wp_eq] at *
  exact FS.wp_ixL h
theorem wp_mthL {mf : List PV → List PV → Option (PV × List PV)} {d : Cd (List PV)} (h : LkS e[i]? (fun _ => False) (fun _ => Wp (d e s) (fun ps e s => ∃ xs w xs', e[i]? = some (.own xs) ∧ mf xs ps = some (w, xs') ∧ Q w (e.set i (.own xs')) s) R)) : Wp (dMthO i mf d e s) Q R := by
  simp only [Wp_eq] at *
  exact FS.wp_mthL h
theorem wp_gtupC {n : Nat} {gs : List PV → Cd Unit} {ps : List PV} {Q : Pq Unit} (hl : ps.length = n) (h : Wp (gs ps e s) Q R) : Wp (gTupD n gs (.tup ps) e s) Q R := by
  simp only [Wp_eq] at *
  exact FS.wp_gtupC hl h
theorem wp_gtupZ {n : Nat} {gs : List PV → Cd Unit} {ps : List PV} {Q : Pq Unit} (hl : ps.length = n) (h : Wp (gs ps e s) Q R) : Wp (gTupD n gs (.tuz ps) e s) Q R := by
  simp only [Wp_eq] at *
  exact FS.wp_gtupZ hl h
end
theorem Wp.mono' {α : Type} {e : Env} {s : Stt} {d : Cd α} (Q : Pq α) (R : Pr) {Q' : Pq α} {R' : Pr} (h : Wp (d e s) Q R) (hq : ∀ a e s, Q a e s → Q' a e s) (hr : ∀ c w e s, R c w e s → R' c w e s) : Wp (d e s) Q' R' := by
  simp only [Wp_eq] at *
  exact FS.Wp.mono' Q R h hq hr
section
variable {α β : Type} {e : Env} {s : Stt} {R : Pr} {QS : Pq Flw} {Q : Pq PV}
theorem wp_par3 {i j l : Nat} {d : Cd (List PV)} (h : Wp (d e s) (fun ps e s => ∃ p q r, ps = [p, q, r] ∧ QS .next (((e.set i (.val p)).set j (.val q)).set l (.val r)) s) R) : Wp (dPar3 i j l d e s) QS R := by
  simp only [Wp_eq] at *
  exact FS.wp_par3 h
end
section
variable {α β : Type} {e : Env} {s : Stt} {R : Pr} {QS : Pq Flw} {Q : Pq PV} {i j l : Nat}
theorem wp_rng3 {d : Cd (List PV)} {Q : Pq (List PV)} (h : Wp (d e s) (fun ps e s => ∃ xs, rng3 ps = some xs ∧ Q xs e s) R) : Wp (dRng3 d e s) Q R := by
  simp only [Wp_eq] at *
  exact FS.wp_rng3 h
theorem wp_ownSet {da : Cd (List PV)} {db : Cd PV} (h : Wp (da e s) (fun xs e s => Wp (db e s) (fun q e s => QS .next ((e.set i (.own xs)).set j (.val q)) s) (fun _ _ _ _ => False)) R) : Wp (dOwnSet i j da db e s) QS R := by
  simp only [Wp_eq] at *
  exact FS.wp_ownSet h
theorem wp_setOwnNil {da : Cd PV} {db : Cd (List PV)} (h : Wp (da e s) (fun p e s => Wp (db e s) (fun xs e s => QS .next (((e.set i (.val p)).set j (.own xs)).set l (.own [])) s) R) R) : Wp (dSetOwnNil i j l da db e s) QS R := by
  simp only [Wp_eq] at *
  exact FS.wp_setOwnNil h
end
section
variable {α β : Type} {e : Env} {s : Stt} {R : Pr} {QS : Pq Flw} {Q : Pq PV}
theorem wp_count {da : Cd PV} {db : Cd (List PV)} (h : Wp (da e s) (fun p e s => ∃ xs ns, p = .tup xs ∧ intsOf xs = some ns ∧ Wp (db e s) (fun qs e s => ∃ i, qs = [.int i] ∧ Q (.int (ns.count i : Nat)) e s) R) R) : Wp (dCount da db e s) Q R := by
  simp only [Wp_eq] at *
  exact FS.wp_count h
theorem wp_sumG {d : Cd (List PV)} {q : Env → PV → Option PV} (h : Wp (d e s) (fun ps e s => ∃ rs ns, qMap q e ps = some rs ∧ intsOf rs = some ns ∧ few ns = true ∧ Q (.int ns.sum) e s) R) : Wp (dSumG d q e s) Q R := by
  simp only [Wp_eq] at *
  exact FS.wp_sumG h
theorem wp_allG {d : Cd (List PV)} {q : Env → PV → Option PV} (h : Wp (d e s) (fun ps e s => ∃ rs bs, qMap q e ps = some rs ∧ blsOf rs = some bs ∧ Q (.bl (bs.all id)) e s) R) : Wp (dAllG d q e s) Q R := by
  simp only [Wp_eq] at *
  exact FS.wp_allG h
end
section
variable {α β : Type} {e : Env} {s : Stt} {R : Pr} {QS : Pq Flw} {Q : Pq PV} {QL : Pq (List PV)}
theorem wp_met {a b : Nat} {d : Cd PV} (h : Wp (d e s) (fun p e s => ∃ nss, (seqF p).bind rowsI = some nss ∧ ((srtI nss.flatten).length < 64 ∧ a < e.length ∧ b < e.length ∧ a ≠ b) ∧ QL ((srtI nss.flatten).map PV.int) e s) R) : Wp (dMet a b d e s) QL R := by
  simp only [Wp_eq] at *
  exact FS.wp_met h
end
end I
end FS
set_option Elab.async false
set_option linter.all false
set_option maxRecDepth 100000
/-! FsWp9: the rules of FsForD. -/
namespace FS
open PySem L2
end FS
set_option Elab.async false
set_option linter.all false
set_option maxRecDepth 100000
/-! FsStp: a step of a walk by one look-up (printed by our stp.py). -/
namespace FS
open PySem L2
namespace I
/-- g follows by p -/
class Stp (g : Prop) (p : outParam Prop) : Prop where
  imp : p → g
/-- .. by steps -/
class Run (g : Prop) (p : outParam Prop) : Prop where
  imp : p → g
theorem stp1 {g p : Prop} [a : Stp g p] (k : p) : g := a.imp k
theorem run1 {g q p : Prop} [a : Stp g q] [b : Run q p] (k : p) : g := a.imp (b.imp k)
instance (priority := low) run_id {g : Prop} : Run g g := ⟨fun h => h⟩
instance run_st {g q p : Prop} [a : Stp g q] [b : Run q p] : Run g p := ⟨fun h => a.imp (b.imp h)⟩
/-! frames as lists -/
class EvR (m : Nat) (r : outParam Env) : Prop where
  h : List.replicate m Slot.none = r
instance evr_0 : EvR 0 [] := ⟨rfl⟩
instance evr_s {m : Nat} {r : Env} [a : EvR m r] : EvR (m + 1) (.none :: r) := ⟨by rw [List.replicate_succ, a.h]⟩
class EvA (ps : List PV) (r : Env) (e : outParam Env) : Prop where
  h : ps.map Slot.val ++ r = e
instance eva_0 {r : Env} : EvA [] r r := ⟨rfl⟩
instance eva_s {p : PV} {ps : List PV} {r e : Env} [a : EvA ps r e] : EvA (p :: ps) r (.val p :: e) := ⟨by rw [List.map_cons, List.cons_append, a.h]⟩
class EvS (e : Env) (i : Nat) (v : Slot) (e' : outParam Env) : Prop where
  h : e.set i v = e'
instance evs_0 {a v : Slot} {e : Env} : EvS (a :: e) 0 v (v :: e) := ⟨rfl⟩
instance evs_s {a v : Slot} {e e' : Env} {i : Nat} [k : EvS e i v e'] : EvS (a :: e) (i + 1) v (a :: e') := ⟨by rw [List.set_cons_succ, k.h]⟩
class Evn (e : Env) (e' : outParam Env) : Prop where
  h : e = e'
instance (priority := low) evn_id {e : Env} : Evn e e := ⟨rfl⟩
instance evn_c {a : Slot} {e : Env} : Evn (a :: e) (a :: e) := ⟨rfl⟩
instance evn_s {e e1 e2 : Env} {i : Nat} {v : Slot} [a : Evn e e1] [b : EvS e1 i v e2] : Evn (e.set i v) e2 := ⟨by rw [a.h, b.h]⟩
instance evn_r {ps : List PV} {m : Nat} {r e : Env} [a : EvR m r] [b : EvA ps r e] : Evn (ps.map Slot.val ++ List.replicate m Slot.none) e := ⟨by rw [a.h, b.h]⟩
/-- what a place holds -/
class Lk (e : Env) (i : Nat) (v : outParam Slot) : Prop where
  h : e[i]? = some v
instance lk_0 {a : Slot} {e : Env} : Lk (a :: e) 0 a := ⟨rfl⟩
instance lk_s {a v : Slot} {e : Env} {i : Nat} [k : Lk e i v] : Lk (a :: e) (i + 1) v := ⟨by rw [List.getElem?_cons_succ]; exact k.h⟩
/-! lengths of displays -/
class Len (ps : List PV) (n : outParam Nat) : Prop where
  h : ps.length = n
instance len_0 : Len [] 0 := ⟨rfl⟩
instance len_s {p : PV} {ps : List PV} {n : Nat} [a : Len ps n] : Len (p :: ps) (n + 1) := ⟨by rw [List.length_cons, a.h]⟩
class LenLe (ps : List PV) (n : Nat) : Prop where
  h : ps.length ≤ n
instance lenle_0 {n : Nat} : LenLe [] n := ⟨Nat.zero_le _⟩
instance lenle_s {p : PV} {ps : List PV} {n : Nat} [a : LenLe ps n] : LenLe (p :: ps) (n + 1) := ⟨Nat.succ_le_succ a.h⟩
class LenEq (ps : List PV) (n : Nat) : Prop where
  h : ps.length = n
instance leneq_0 : LenEq [] 0 := ⟨rfl⟩
instance leneq_s {p : PV} {ps : List PV} {n : Nat} [a : LenEq ps n] : LenEq (p :: ps) (n + 1) := ⟨by rw [List.length_cons, a.h]⟩
section
variable {α β : Type} {e : Env} {s : Stt} {R : Pr} {QS : Pq Flw} {Q : Pq PV}
instance st_seq {a b : Cd Flw} {e' : Env} [n : Evn e e'] : Stp (Wp (dSeq a b e s) QS R) (Wp (a e' s) (SQ (fun e s => Wp (b e s) QS R) QS) R) := ⟨fun h => by rw [n.h]; exact wp_seq h⟩
instance st_nxt : Stp (Wp (nxt e s) QS R) (QS .next e s) := ⟨fun h => wp_nxt h⟩
instance st_sq {K : Env → Stt → Prop} {Q : Pq Flw} : Stp (SQ K Q .next e s) (K e s) := ⟨fun h => wp_sq h⟩
instance st_use {i : Nat} {p : PV} {e' : Env} [n : Evn e e'] [k : Lk e' i (.val p)] : Stp (Wp (dUse i e s) Q R) (Q p e' s) := ⟨fun h => by rw [n.h]; exact wp_use k.h h⟩
instance st_useO {i : Nat} {xs : List PV} {e1 e2 : Env} [n : Evn e e1] [k : Lk e1 i (.own xs)] [u : EvS e1 i (.val (.lst xs)) e2] : Stp (Wp (dUse i e s) Q R) (Q (.lst xs) e2 s) := ⟨fun h => by rw [n.h]; refine wp_useO k.h ?_; rw [u.h]; exact h⟩
instance st_lenV {i : Nat} {p : PV} {e' : Env} [n : Evn e e'] [k : Lk e' i (.val p)] : Stp (Wp (dLenO i e s) Q R) (Wp (dFn fLen (dCons (dUse i) dNil) e' s) Q R) := ⟨fun h => by rw [n.h]; exact wp_lenV k.h h⟩
instance st_lenO {i : Nat} {xs : List PV} {e' : Env} [n : Evn e e'] [k : Lk e' i (.own xs)] : Stp (Wp (dLenO i e s) Q R) (Q (.int xs.length) e' s) := ⟨fun h => by rw [n.h]; exact wp_lenO k.h h⟩
instance st_ixV {i : Nat} {p : PV} {db : Cd PV} {e' : Env} [n : Evn e e'] [k : Lk e' i (.val p)] : Stp (Wp (dIxO i db e s) Q R) (Wp (dOp pIx (dUse i) db e' s) Q R) := ⟨fun h => by rw [n.h]; exact wp_ixV k.h h⟩
instance st_ixO {i : Nat} {ys : List PV} {db : Cd PV} {e' : Env} [n : Evn e e'] [k : Lk e' i (.own ys)] : Stp (Wp (dIxO i db e s) Q R) (Wp (db e' s) (fun k e s => ∃ xs j w, e[i]? = some (.own xs) ∧ k = .int j ∧ atI xs j = some w ∧ Q w e s) R) := ⟨fun h => by rw [n.h]; exact wp_ixO k.h h⟩
instance st_mthO {i : Nat} {mf : List PV → List PV → Option (PV × List PV)} {d : Cd (List PV)} {ys : List PV} {e' : Env} [n : Evn e e'] [k : Lk e' i (.own ys)] : Stp (Wp (dMthO i mf d e s) Q R) (Wp (d e' s) (fun ps e s => ∃ xs w xs', e[i]? = some (.own xs) ∧ mf xs ps = some (w, xs') ∧ Q w (e.set i (.own xs')) s) R) := ⟨fun h => by rw [n.h]; exact wp_mthO k.h h⟩
instance st_own1 {i : Nat} {ys : List PV} {A : List PV → Prop} {e' : Env} [n : Evn e e'] [k : Lk e' i (.own ys)] : Stp (∃ ys, e[i]? = some (.own ys) ∧ A ys) (A ys) := ⟨fun h => ⟨ys, by rw [n.h]; exact k.h, h⟩⟩
instance st_low {ps : List PV} {A : Prop} [k : LenLe ps 64] : Stp (ps.length ≤ sizeLine ∧ A) A := ⟨fun h => ⟨Nat.le_trans k.h (Nat.le_of_ble_eq_true rfl), h⟩⟩
instance st_num {ps : List PV} {n : Nat} {A : Prop} [k : LenEq ps n] : Stp (ps.length = n ∧ A) A := ⟨fun h => ⟨k.h, h⟩⟩
instance st_part {i : Int} {Q : Int → Prop} : Stp (∃ j, PV.int i = .int j ∧ Q j) (Q i) := ⟨fun h => ⟨i, rfl, h⟩⟩
instance st_par {p q : PV} {A : PV → PV → Prop} : Stp (∃ p' q', [p, q] = [p', q'] ∧ A p' q') (A p q) := ⟨fun h => ⟨p, q, rfl, h⟩⟩
instance st_gtupC {n : Nat} {gs : List PV → Cd Unit} {ps : List PV} {Q : Pq Unit} [k : LenEq ps n] : Stp (Wp (gTupD n gs (.tup ps) e s) Q R) (Wp (gs ps e s) Q R) := ⟨fun h => wp_gtupC k.h h⟩
instance st_gtupZ {n : Nat} {gs : List PV → Cd Unit} {ps : List PV} {Q : Pq Unit} [k : LenEq ps n] : Stp (Wp (gTupD n gs (.tuz ps) e s) Q R) (Wp (gs ps e s) Q R) := ⟨fun h => wp_gtupZ k.h h⟩
instance st_chpLt {a b : Int} {A : Bool → Prop} : Stp (∃ k, pLt s (.int a) (.int b) = some (.bl k) ∧ A k) (A (decide (a < b))) := ⟨fun h => ⟨_, rfl, h⟩⟩
instance st_chpLe {a b : Int} {A : Bool → Prop} : Stp (∃ k, pLe s (.int a) (.int b) = some (.bl k) ∧ A k) (A (decide (a ≤ b))) := ⟨fun h => ⟨_, rfl, h⟩⟩
instance st_chpGt {a b : Int} {A : Bool → Prop} : Stp (∃ k, pGt s (.int a) (.int b) = some (.bl k) ∧ A k) (A (decide (b < a))) := ⟨fun h => ⟨_, rfl, h⟩⟩
instance st_chpGe {a b : Int} {A : Bool → Prop} : Stp (∃ k, pGe s (.int a) (.int b) = some (.bl k) ∧ A k) (A (decide (b ≤ a))) := ⟨fun h => ⟨_, rfl, h⟩⟩
end
instance st_wp_ret {α : Type} {e : Env} {s : Stt} {R : Pr} {a : α} {Q : Pq α} : Stp (Wp (ret a e s) Q R) (Q a e s) := ⟨fun h => wp_ret h⟩
instance st_wp_op {e : Env} {s : Stt} {R : Pr} {Q : Pq PV} {f : Stt → PV → PV → Option PV} {a b : Cd PV} : Stp (Wp (dOp f a b e s) Q R) (Wp (a e s) (fun p e s => Wp (b e s) (fun q e s => ∃ w, f s p q = some w ∧ Q w e s) R) R) := ⟨fun h => wp_op h⟩
instance st_wp_un {e : Env} {s : Stt} {R : Pr} {Q : Pq PV} {f : PV → Option PV} {a : Cd PV} : Stp (Wp (dUn f a e s) Q R) (Wp (a e s) (fun p e s => ∃ w, f p = some w ∧ Q w e s) R) := ⟨fun h => wp_un h⟩
instance st_wp_nil {e : Env} {s : Stt} {R : Pr} {Q : Pq (List PV)} : Stp (Wp (dNil e s) Q R) (Q [] e s) := ⟨fun h => wp_nil h⟩
instance st_wp_cons {e : Env} {s : Stt} {R : Pr} {a : Cd PV} {r : Cd (List PV)} {Q : Pq (List PV)} : Stp (Wp (dCons a r e s) Q R) (Wp (a e s) (fun p e s => Wp (r e s) (fun ps e s => Q (p :: ps) e s) R) R) := ⟨fun h => wp_cons h⟩
instance st_wp_tup {e : Env} {s : Stt} {R : Pr} {Q : Pq PV} {d : Cd (List PV)} : Stp (Wp (dTup d e s) Q R) (Wp (d e s) (fun ps e s => ps.length ≤ sizeLine ∧ Q (.tup ps) e s) R) := ⟨fun h => wp_tup h⟩
instance st_wp_disp {e : Env} {s : Stt} {R : Pr} {d : Cd (List PV)} {Q : Pq (List PV)} : Stp (Wp (dDisp d e s) Q R) (Wp (d e s) (fun ps e s => ps.length ≤ sizeLine ∧ Q ps e s) R) := ⟨fun h => wp_disp h⟩
instance st_wp_frz {e : Env} {s : Stt} {R : Pr} {Q : Pq PV} {d : Cd (List PV)} : Stp (Wp (dFrz d e s) Q R) (Wp (d e s) (fun ps e s => Q (.lst ps) e s) R) := ⟨fun h => wp_frz h⟩
instance st_wp_new {e : Env} {s : Stt} {R : Pr} {Q : Pq PV} {d : Cd (List PV)} : Stp (Wp (dNew d e s) Q R) (Wp (d e s) (fun xs e s => Q (.ref s.length) e (s ++ [.lst xs])) R) := ⟨fun h => wp_new h⟩
instance st_wp_b {e : Env} {s : Stt} {R : Pr} {d : Cd PV} {Q : Pq Bool} : Stp (Wp (dB d e s) Q R) (Wp (d e s) (fun p e s => ∃ b, asB p = some b ∧ Q b e s) R) := ⟨fun h => wp_b h⟩
instance st_wp_tru {e : Env} {s : Stt} {R : Pr} {d : Cd PV} {Q : Pq Bool} : Stp (Wp (dTru d e s) Q R) (Wp (d e s) (fun p e s => ∃ b, tru s p = some b ∧ Q b e s) R) := ⟨fun h => wp_tru h⟩
instance st_wp_notT {e : Env} {s : Stt} {R : Pr} {d : Cd Bool} {Q : Pq Bool} : Stp (Wp (dNotT d e s) Q R) (Wp (d e s) (fun b e s => Q (!b) e s) R) := ⟨fun h => wp_notT h⟩
instance st_wp_andT {e : Env} {s : Stt} {R : Pr} {d r : Cd Bool} {Q : Pq Bool} : Stp (Wp (dAndT d r e s) Q R) (Wp (d e s) (fun b e s => (b = true → Wp (r e s) Q R) ∧ (b = false → Q false e s)) R) := ⟨fun h => wp_andT h⟩
instance st_wp_orT {e : Env} {s : Stt} {R : Pr} {d r : Cd Bool} {Q : Pq Bool} : Stp (Wp (dOrT d r e s) Q R) (Wp (d e s) (fun b e s => (b = true → Q true e s) ∧ (b = false → Wp (r e s) Q R)) R) := ⟨fun h => wp_orT h⟩
instance st_wp_andV {e : Env} {s : Stt} {R : Pr} {Q : Pq PV} {d r : Cd PV} : Stp (Wp (dAndV d r e s) Q R) (Wp (d e s) (fun p e s => ∃ b, asB p = some b ∧ (b = true → Wp (r e s) Q R) ∧ (b = false → Q (.bl false) e s)) R) := ⟨fun h => wp_andV h⟩
instance st_wp_orV {e : Env} {s : Stt} {R : Pr} {Q : Pq PV} {d r : Cd PV} : Stp (Wp (dOrV d r e s) Q R) (Wp (d e s) (fun p e s => ∃ b, asB p = some b ∧ (b = true → Q (.bl true) e s) ∧ (b = false → Wp (r e s) Q R)) R) := ⟨fun h => wp_orV h⟩
instance st_wp_notV {e : Env} {s : Stt} {R : Pr} {Q : Pq PV} {d : Cd PV} : Stp (Wp (dNotV d e s) Q R) (Wp (d e s) (fun p e s => ∃ b, asB p = some b ∧ Q (.bl (!b)) e s) R) := ⟨fun h => wp_notV h⟩
instance st_wp_ife {e : Env} {s : Stt} {R : Pr} {Q : Pq PV} {t : Cd Bool} {a b : Cd PV} : Stp (Wp (dIfE t a b e s) Q R) (Wp (t e s) (fun k e s => (k = true → Wp (a e s) Q R) ∧ (k = false → Wp (b e s) Q R)) R) := ⟨fun h => wp_ife h⟩
instance st_wp_chain {e : Env} {s : Stt} {R : Pr} {Q : Pq PV} {f f' : Stt → PV → PV → Option PV} {a b c : Cd PV} : Stp (Wp (dChain f f' a b c e s) Q R) (Wp (a e s) (fun p e s => Wp (b e s) (fun q e s => ∃ k, f s p q = some (.bl k) ∧ (k = true → Wp (c e s) (fun r e s => ∃ w, f' s q r = some w ∧ Q w e s) R) ∧ (k = false → Q (.bl false) e s)) R) R) := ⟨fun h => wp_chain h⟩
instance st_wp_fn {e : Env} {s : Stt} {R : Pr} {Q : Pq PV} {g : Stt → List PV → Option PV} {d : Cd (List PV)} : Stp (Wp (dFn g d e s) Q R) (Wp (d e s) (fun ps e s => ∃ w, g s ps = some w ∧ Q w e s) R) := ⟨fun h => wp_fn h⟩
instance st_wp_call {e : Env} {s : Stt} {R : Pr} {Q : Pq PV} {n : Nat} {den : List PV → Stt → Res} {d : Cd (List PV)} : Stp (Wp (dCall n den d e s) Q R) (Wp (d e s) (fun ps e s => ps.length = n ∧ Fn (den ps s) (fun p s => Q p e s) (fun c w s => R c w e s)) R) := ⟨fun h => wp_call h⟩
instance st_wp_noPart {e : Env} {s : Stt} {R : Pr} {Q : Pq (Option Int)} : Stp (Wp (dNoPart e s) Q R) (Q none e s) := ⟨fun h => wp_noPart h⟩
instance st_wp_part {e : Env} {s : Stt} {R : Pr} {d : Cd PV} {Q : Pq (Option Int)} : Stp (Wp (dPart d e s) Q R) (Wp (d e s) (fun p e s => ∃ i, p = .int i ∧ Q (some i) e s) R) := ⟨fun h => wp_part h⟩
instance st_wp_cut {e : Env} {s : Stt} {R : Pr} {Q : Pq PV} {d : Cd PV} {l h' : Cd (Option Int)} : Stp (Wp (dCut d l h' e s) Q R) (Wp (d e s) (fun p e s => Wp (l e s) (fun l e s => Wp (h' e s) (fun u e s => ∃ w, pCut s p l u = some w ∧ Q w e s) R) R) R) := ⟨fun h => wp_cut h⟩
instance st_wp_list {e : Env} {s : Stt} {R : Pr} {d : Cd PV} {Q : Pq (List PV)} : Stp (Wp (dListF d e s) Q R) (Wp (d e s) (fun p e s => ∃ xs, itemsOf s p = some xs ∧ Q xs e s) R) := ⟨fun h => wp_list h⟩
instance st_wp_mthR {e : Env} {s : Stt} {R : Pr} {Q : Pq PV} {mf : List PV → List PV → Option (PV × List PV)} {o : Cd PV} {d : Cd (List PV)} : Stp (Wp (dMthR mf o d e s) Q R) (Wp (o e s) (fun p e s => ∃ n ys, p = .ref n ∧ s[n]? = some (.lst ys) ∧ Wp (d e s) (fun ps e s => ∃ xs w xs', s[n]? = some (.lst xs) ∧ mf xs ps = some (w, xs') ∧ Q w e (s.set n (.lst xs'))) R) R) := ⟨fun h => wp_mthR h⟩
instance st_wp_drop {e : Env} {s : Stt} {R : Pr} {QS : Pq Flw} {d : Cd PV} : Stp (Wp (dDrop d e s) QS R) (Wp (d e s) (fun _ e s => QS .next e s) R) := ⟨fun h => wp_drop h⟩
instance st_wp_dret {e : Env} {s : Stt} {R : Pr} {QS : Pq Flw} {d : Cd PV} : Stp (Wp (dRet d e s) QS R) (Wp (d e s) (fun p e s => QS (.ret p) e s) R) := ⟨fun h => wp_dret h⟩
instance st_wp_if {e : Env} {s : Stt} {R : Pr} {QS : Pq Flw} {t : Cd Bool} {a b : Cd Flw} : Stp (Wp (dIf t a b e s) QS R) (Wp (t e s) (fun k e s => (k = true → Wp (a e s) QS R) ∧ (k = false → Wp (b e s) QS R)) R) := ⟨fun h => wp_if h⟩
instance st_wp_set {e : Env} {s : Stt} {R : Pr} {QS : Pq Flw} {d : Cd PV} {i : Nat} : Stp (Wp (dSet i d e s) QS R) (Wp (d e s) (fun p e s => QS .next (e.set i (.val p)) s) R) := ⟨fun h => wp_set h⟩
instance st_wp_own {e : Env} {s : Stt} {R : Pr} {QS : Pq Flw} {i : Nat} {d : Cd (List PV)} : Stp (Wp (dOwn i d e s) QS R) (Wp (d e s) (fun xs e s => QS .next (e.set i (.own xs)) s) R) := ⟨fun h => wp_own h⟩
instance st_wp_asg {e : Env} {s : Stt} {R : Pr} {QS : Pq Flw} {d : Cd PV} {g : PV → Cd Unit} : Stp (Wp (dAsg d g e s) QS R) (Wp (d e s) (fun p e s => Wp (g p e s) (fun _ e s => QS .next e s) R) R) := ⟨fun h => wp_asg h⟩
instance st_wp_gset {e : Env} {s : Stt} {R : Pr} {i : Nat} {p : PV} {Q : Pq Unit} : Stp (Wp (gSet i p e s) Q R) (Q () (e.set i (.val p)) s) := ⟨fun h => wp_gset h⟩
instance st_wp_gcons {e : Env} {s : Stt} {R : Pr} {g : PV → Cd Unit} {gs : List PV → Cd Unit} {p : PV} {ps : List PV} {Q : Pq Unit} : Stp (Wp (gsCons g gs (p :: ps) e s) Q R) (Wp (g p e s) (fun _ e s => Wp (gs ps e s) Q R) R) := ⟨fun h => wp_gcons h⟩
instance st_wp_gnil {e : Env} {s : Stt} {R : Pr} {Q : Pq Unit} : Stp (Wp (gsNil [] e s) Q R) (Q () e s) := ⟨fun h => wp_gnil h⟩
instance st_wp_par {e : Env} {s : Stt} {R : Pr} {QS : Pq Flw} {i j : Nat} {d : Cd (List PV)} : Stp (Wp (dPar i j d e s) QS R) (Wp (d e s) (fun ps e s => ∃ p q, ps = [p, q] ∧ QS .next ((e.set i (.val p)).set j (.val q)) s) R) := ⟨fun h => wp_par h⟩
instance st_wp_setO {e : Env} {s : Stt} {R : Pr} {QS : Pq Flw} {i : Nat} {di dv : Cd PV} : Stp (Wp (dSetO i di dv e s) QS R) (Wp (dv e s) (fun w e s => ∃ ys, e[i]? = some (.own ys) ∧ Wp (di e s) (fun k e s => ∃ xs j m, e[i]? = some (.own xs) ∧ k = .int j ∧ ixN xs.length j = some m ∧ QS .next (e.set i (.own (xs.set m w))) s) R) R) := ⟨fun h => wp_setO h⟩
instance st_wp_setR {e : Env} {s : Stt} {R : Pr} {QS : Pq Flw} {o di dv : Cd PV} : Stp (Wp (dSetR o di dv e s) QS R) (Wp (dv e s) (fun w e s => Wp (o e s) (fun p e s => Wp (di e s) (fun k e s => ∃ n xs j m, p = .ref n ∧ k = .int j ∧ s[n]? = some (.lst xs) ∧ ixN xs.length j = some m ∧ QS .next e (s.set n (.lst (xs.set m w)))) R) R) R) := ⟨fun h => wp_setR h⟩
instance st_wp_raise {e : Env} {s : Stt} {R : Pr} {QS : Pq Flw} {d : Cd PV} {c : Str} : Stp (Wp (dRaise c d e s) QS R) (Wp (d e s) (fun p e s => R c p e s) R) := ⟨fun h => wp_raise h⟩
instance st_wp_items {e : Env} {s : Stt} {R : Pr} {d : Cd PV} {Q : Pq (List PV)} : Stp (Wp (dItems d e s) Q R) (Wp (d e s) (fun p e s => ∃ xs, itemsF p = some xs ∧ Q xs e s) R) := ⟨fun h => wp_items h⟩
instance st_wp_rng1 {e : Env} {s : Stt} {R : Pr} {d : Cd (List PV)} {Q : Pq (List PV)} : Stp (Wp (dRng1 d e s) Q R) (Wp (d e s) (fun ps e s => ∃ xs, rng1 ps = some xs ∧ Q xs e s) R) := ⟨fun h => wp_rng1 h⟩
instance st_wp_rng2 {e : Env} {s : Stt} {R : Pr} {d : Cd (List PV)} {Q : Pq (List PV)} : Stp (Wp (dRng2 d e s) Q R) (Wp (d e s) (fun ps e s => ∃ xs, rng2 ps = some xs ∧ Q xs e s) R) := ⟨fun h => wp_rng2 h⟩
instance st_wp_zip {e : Env} {s : Stt} {R : Pr} {d : Cd (List PV)} {Q : Pq (List PV)} : Stp (Wp (dZip d e s) Q R) (Wp (d e s) (fun ps e s => ∃ xs, zip2 ps = some xs ∧ Q xs e s) R) := ⟨fun h => wp_zip h⟩
instance st_wp_inO {e : Env} {s : Stt} {R : Pr} {Q : Pq PV} {i : Nat} {neg : Bool} {da : Cd PV} : Stp (Wp (dInO neg da i e s) Q R) (Wp (da e s) (fun p e s => (∃ xs w, e[i]? = some (.own xs) ∧ inL neg p xs = some w ∧ Q w e s) ∨ (∃ q w, e[i]? = some (.val q) ∧ (if neg then pNotInA s p q else pInA s p q) = some w ∧ Q w e s)) R) := ⟨fun h => wp_inO h⟩
instance st_wp_mulL {e : Env} {s : Stt} {R : Pr} {QL : Pq (List PV)} {da db : Cd PV} : Stp (Wp (dMulL da db e s) QL R) (Wp (da e s) (fun p e s => Wp (db e s) (fun q e s => ∃ xs k, p = .lst xs ∧ q = .int k ∧ (k < 1048576 ∧ -1048576 < k ∧ xs.length * k.toNat ≤ sizeLine) ∧ QL (List.replicate k.toNat xs).flatten e s) R) R) := ⟨fun h => wp_mulL h⟩
instance st_wp_catL {e : Env} {s : Stt} {R : Pr} {QL : Pq (List PV)} {da db : Cd PV} : Stp (Wp (dCatL da db e s) QL R) (Wp (da e s) (fun p e s => Wp (db e s) (fun q e s => ∃ xs ys, p = .lst xs ∧ q = .lst ys ∧ xs.length + ys.length ≤ sizeLine ∧ QL (xs ++ ys) e s) R) R) := ⟨fun h => wp_catL h⟩
instance st_wp_cutL {e : Env} {s : Stt} {R : Pr} {QL : Pq (List PV)} {d : Cd PV} {l h' : Cd (Option Int)} : Stp (Wp (dCutL d l h' e s) QL R) (Wp (d e s) (fun p e s => Wp (l e s) (fun l e s => Wp (h' e s) (fun u e s => ∃ xs, p = .lst xs ∧ QL (cutP xs l u) e s) R) R) R) := ⟨fun h => wp_cutL h⟩
instance st_wp_rngL {e : Env} {s : Stt} {R : Pr} {QL : Pq (List PV)} {d : Cd (List PV)} : Stp (Wp (dRngL d e s) QL R) (Wp (d e s) (fun ps e s => ∃ j, ps = [.int j] ∧ (okR j = true ∧ j ≤ 16777216) ∧ QL ((List.range j.toNat).map fun (i : Nat) => PV.int i) e s) R) := ⟨fun h => wp_rngL h⟩
instance st_wp_ownNil {e : Env} {s : Stt} {R : Pr} {QS : Pq Flw} {i : Nat} {j : Nat} {d : Cd (List PV)} : Stp (Wp (dOwnNil i j d e s) QS R) (Wp (d e s) (fun xs e s => QS .next ((e.set i (.own xs)).set j (.own [])) s) R) := ⟨fun h => wp_ownNil h⟩
instance st_wp_setNil {e : Env} {s : Stt} {R : Pr} {QS : Pq Flw} {i : Nat} {j : Nat} {d : Cd PV} : Stp (Wp (dSetNil i j d e s) QS R) (Wp (d e s) (fun p e s => QS .next ((e.set i (.val p)).set j (.own [])) s) R) := ⟨fun h => wp_setNil h⟩
instance st_wp_zipM {e : Env} {s : Stt} {R : Pr} {d : Cd (List PV)} {Q : Pq (List PV)} : Stp (Wp (dZipM d e s) Q R) (Wp (d e s) (fun ps e s => ∃ xs, zipM ps = some xs ∧ Q xs e s) R) := ⟨fun h => wp_zipM h⟩
instance st_wp_enum {e : Env} {s : Stt} {R : Pr} {d : Cd (List PV)} {Q : Pq (List PV)} : Stp (Wp (dEnum d e s) Q R) (Wp (d e s) (fun ps e s => ∃ xs, enumP ps = some xs ∧ Q xs e s) R) := ⟨fun h => wp_enum h⟩
instance st_wp_par3 {e : Env} {s : Stt} {R : Pr} {QS : Pq Flw} {i j l : Nat} {d : Cd (List PV)} : Stp (Wp (dPar3 i j l d e s) QS R) (Wp (d e s) (fun ps e s => ∃ p q r, ps = [p, q, r] ∧ QS .next (((e.set i (.val p)).set j (.val q)).set l (.val r)) s) R) := ⟨fun h => wp_par3 h⟩
instance st_wp_rng3 {e : Env} {s : Stt} {R : Pr} {d : Cd (List PV)} {Q : Pq (List PV)} : Stp (Wp (dRng3 d e s) Q R) (Wp (d e s) (fun ps e s => ∃ xs, rng3 ps = some xs ∧ Q xs e s) R) := ⟨fun h => wp_rng3 h⟩
instance st_wp_ownSet {e : Env} {s : Stt} {R : Pr} {QS : Pq Flw} {i : Nat} {j : Nat} {da : Cd (List PV)} {db : Cd PV} : Stp (Wp (dOwnSet i j da db e s) QS R) (Wp (da e s) (fun xs e s => Wp (db e s) (fun q e s => QS .next ((e.set i (.own xs)).set j (.val q)) s) (fun _ _ _ _ => False)) R) := ⟨fun h => wp_ownSet h⟩
instance st_wp_setOwnNil {e : Env} {s : Stt} {R : Pr} {QS : Pq Flw} {i : Nat} {j : Nat} {l : Nat} {da : Cd PV} {db : Cd (List PV)} : Stp (Wp (dSetOwnNil i j l da db e s) QS R) (Wp (da e s) (fun p e s => Wp (db e s) (fun xs e s => QS .next (((e.set i (.val p)).set j (.own xs)).set l (.own [])) s) R) R) := ⟨fun h => wp_setOwnNil h⟩
instance st_wp_count {e : Env} {s : Stt} {R : Pr} {Q : Pq PV} {da : Cd PV} {db : Cd (List PV)} : Stp (Wp (dCount da db e s) Q R) (Wp (da e s) (fun p e s => ∃ xs ns, p = .tup xs ∧ intsOf xs = some ns ∧ Wp (db e s) (fun qs e s => ∃ i, qs = [.int i] ∧ Q (.int (ns.count i : Nat)) e s) R) R) := ⟨fun h => wp_count h⟩
instance st_wp_sumG {e : Env} {s : Stt} {R : Pr} {Q : Pq PV} {d : Cd (List PV)} {q : Env → PV → Option PV} : Stp (Wp (dSumG d q e s) Q R) (Wp (d e s) (fun ps e s => ∃ rs ns, qMap q e ps = some rs ∧ intsOf rs = some ns ∧ few ns = true ∧ Q (.int ns.sum) e s) R) := ⟨fun h => wp_sumG h⟩
instance st_wp_allG {e : Env} {s : Stt} {R : Pr} {Q : Pq PV} {d : Cd (List PV)} {q : Env → PV → Option PV} : Stp (Wp (dAllG d q e s) Q R) (Wp (d e s) (fun ps e s => ∃ rs bs, qMap q e ps = some rs ∧ blsOf rs = some bs ∧ Q (.bl (bs.all id)) e s) R) := ⟨fun h => wp_allG h⟩
instance st_x_add {s : Stt} {Q : PV → Prop} {a : Int} {b : Int} : Stp (∃ w, pAdd s (.int a) (.int b) = some w ∧ Q w) (Q (.int (a + b))) := ⟨fun h => FS.x_add h⟩
instance st_x_sub {s : Stt} {Q : PV → Prop} {a : Int} {b : Int} : Stp (∃ w, pSub s (.int a) (.int b) = some w ∧ Q w) (Q (.int (a - b))) := ⟨fun h => FS.x_sub h⟩
instance st_x_lt {s : Stt} {Q : PV → Prop} {a : Int} {b : Int} : Stp (∃ w, pLt s (.int a) (.int b) = some w ∧ Q w) (Q (.bl (decide (a < b)))) := ⟨fun h => FS.x_lt h⟩
instance st_x_le {s : Stt} {Q : PV → Prop} {a : Int} {b : Int} : Stp (∃ w, pLe s (.int a) (.int b) = some w ∧ Q w) (Q (.bl (decide (a ≤ b)))) := ⟨fun h => FS.x_le h⟩
instance st_x_gt {s : Stt} {Q : PV → Prop} {a : Int} {b : Int} : Stp (∃ w, pGt s (.int a) (.int b) = some w ∧ Q w) (Q (.bl (decide (b < a)))) := ⟨fun h => FS.x_gt h⟩
instance st_x_ge {s : Stt} {Q : PV → Prop} {a : Int} {b : Int} : Stp (∃ w, pGe s (.int a) (.int b) = some w ∧ Q w) (Q (.bl (decide (b ≤ a)))) := ⟨fun h => FS.x_ge h⟩
instance st_x_eq {s : Stt} {Q : PV → Prop} {a : Int} {b : Int} : Stp (∃ w, pEq s (.int a) (.int b) = some w ∧ Q w) (Q (.bl (decide (a = b)))) := ⟨fun h => FS.x_eq h⟩
instance st_x_ne {s : Stt} {Q : PV → Prop} {a : Int} {b : Int} : Stp (∃ w, pNe s (.int a) (.int b) = some w ∧ Q w) (Q (.bl (!decide (a = b)))) := ⟨fun h => FS.x_ne h⟩
instance st_x_neg {Q : PV → Prop} {a : Int} : Stp (∃ w, pNeg (.int a) = some w ∧ Q w) (Q (.int (-a))) := ⟨fun h => FS.x_neg h⟩
instance st_x_bl {k : Bool} {Q : Bool → Prop} : Stp (∃ b, asB (.bl k) = some b ∧ Q b) (Q k) := ⟨fun h => FS.x_bl h⟩
instance st_x_truB {s : Stt} {k : Bool} {Q : Bool → Prop} : Stp (∃ b, tru s (.bl k) = some b ∧ Q b) (Q k) := ⟨fun h => FS.x_truB h⟩
instance st_wp_sqr {K : Env → Stt → Prop} {Q : Pq Flw} {p : PV} {e : Env} {s : Stt} : Stp (SQ K Q (.ret p) e s) (Q (.ret p) e s) := ⟨fun h => FS.wp_sqr h⟩
instance st_wp_lq {I : Env → Stt → Prop} {Q : Pq Flw} {e : Env} {s : Stt} : Stp (LQ I Q .next e s) (I e s) := ⟨fun h => FS.wp_lq h⟩
instance st_wp_lqr {I : Env → Stt → Prop} {Q : Pq Flw} {p : PV} {e : Env} {s : Stt} : Stp (LQ I Q (.ret p) e s) (Q (.ret p) e s) := ⟨fun h => FS.wp_lqr h⟩
instance st_wp_fqn {Q : PV → Stt → Prop} {e : Env} {s : Stt} : Stp (FQ Q .next e s) (Q .non s) := ⟨fun h => FS.wp_fqn h⟩
instance st_wp_fqr {Q : PV → Stt → Prop} {p : PV} {e : Env} {s : Stt} : Stp (FQ Q (.ret p) e s) (Q p s) := ⟨fun h => FS.wp_fqr h⟩
instance st_x_rev {xs : List PV} {Q : PV → Prop} : Stp (∃ w, pRev (.tup xs) = some w ∧ Q w) (Q (.tup xs.reverse)) := ⟨fun h => FS.x_rev h⟩
instance st_x_revL {xs : List PV} {Q : PV → Prop} : Stp (∃ w, pRev (.lst xs) = some w ∧ Q w) (Q (.lst xs.reverse)) := ⟨fun h => FS.x_revL h⟩
instance st_x_par3 {p q r : PV} {Q : PV → PV → PV → Prop} : Stp (∃ p' q' r', [p, q, r] = [p', q', r'] ∧ Q p' q' r') (Q p q r) := ⟨fun h => FS.x_par3 h⟩
end I
end FS
set_option Elab.async false
set_option linter.all false
set_option maxRecDepth 100000
/-! FsNum: primes, ways to choose, the coefficients of shifted polynomials. -/
namespace FS
/-- prime, up to the program's greatest -/
def prm (n : Int) : Prop := 2 ≤ n ∧ n ≤ 65521 ∧ ∀ k, 2 ≤ k → k * k ≤ n → n % k ≠ 0
open Classical in
noncomputable def isP : PV → Bool
  | .int n => decide (prm n)
  | _ => false
def Th (p : PV) : Prop := (∃ n, p = .int n) ∨ (∃ b, p = .bl b) ∨ p = .non ∨ (∃ x, p = .str x) ∨ ∃ xs, p = .tup xs
def isW (lo hi : Int) : PV → Bool
  | .int n => decide (lo ≤ n) && decide (n ≤ hi)
  | _ => false
theorem sq_le {a b : Int} (h0 : 0 ≤ a) (h : a ≤ b) : a * a ≤ b * b := Int.mul_le_mul h h h0 (Int.le_trans h0 h)
theorem sq_ge {d : Int} (h : 2 ≤ d) : d + 1 ≤ d * d := by
  have := Int.mul_le_mul_of_nonneg_right h (Int.le_trans (by decide) h)
  omega
theorem prm_of {n : Int} (h : 2 ≤ n ∧ n ≤ 65521) (hd : ∀ k : Nat, k < 256 → 2 ≤ k → k * k ≤ n.toNat → n.toNat % k ≠ 0) : prm n := by
  refine ⟨h.1, h.2, fun k h1 h2 h3 => ?_⟩
  have hk : k < 256 := by
    rcases Int.lt_or_le k 256 with q | q
    · exact q
    · have := sq_le (by decide) q
      omega
  have e1 : ((k.toNat : Nat) : Int) = k := Int.toNat_of_nonneg (by omega)
  have e2 : ((n.toNat : Nat) : Int) = n := Int.toNat_of_nonneg (by omega)
  refine hd k.toNat (by omega) (by omega) ?_ ?_
  · rw [← e1, ← e2] at h2
    exact_mod_cast h2
  · rw [← e1, ← e2] at h3
    exact_mod_cast h3
def ch : Nat → Nat → Nat
  | _, 0 => 1
  | 0, _ + 1 => 0
  | n + 1, k + 1 => ch n k + ch n (k + 1)
/-! ### coefficients of f(x + y) in y -/
def T : List Int → Int → Nat → Int
  | [], _, _ => 0
  | a :: f, x, 0 => a + x * T f x 0
  | _ :: f, x, j + 1 => T f x j + x * T f x (j + 1)
/-! ### remainders -/
/-- lists alike but for multiples of p -/
def Lk (p : Int) (f g : List Int) : Prop := f.length = g.length ∧ ∀ (i : Nat) (a b : Int), f[i]? = some a → g[i]? = some b → a % p = b % p
/-- what a shelf's cell holds -/
def cl (p : Int) (f : List Int) (x : Int) (j : Nat) : Int := if x = p then f.reverse.getD j 0 else T f x j % p
end FS
set_option Elab.async false
set_option linter.all false
set_option maxRecDepth 100000
set_option maxHeartbeats 2000000
/-! FsRefFor: a for over a shared list, as it stands at each turn. -/
namespace FS
open PySem PySem.Spec PyProof.Rows L2
def compLR (r0 : Nat) (own : List Nat) (g : PV → Cd Unit) (t : Cd Bool) (d : Cd PV) : Nat → Nat → List PV → Cd (List PV)
  | 0, n, acc => fun e s => match s[r0]? with
    | some (.lst ys) => match ys[n]? with
      | none => .ok acc e s
      | some _ => .bad
    | some (.dct _ _) => .bad
    | some (.ins _ _) => .bad
    | none => .bad
  | f + 1, n, acc => fun e s => match s[r0]? with
    | some (.lst ys) => match ys[n]? with
      | none => .ok acc e s
      | some p => (bnd (g p) fun _ => bnd t fun b => if b = true then bnd d fun w => if acc.length < sizeLine then fun e s => compLR r0 own g t d f (n + 1) (acc ++ [w]) (wipeE e own) s else fun _ _ => .bad
        else fun e s => compLR r0 own g t d f (n + 1) acc (wipeE e own) s) e s
    | some (.dct _ _) => .bad
    | some (.ins _ _) => .bad
    | none => .bad
def dCompR (dl : Cd PV) (own : List Nat) (g : PV → Cd Unit) (t : Cd Bool) (d : Cd PV) : Cd (List PV) := bnd dl fun p => match p with
  | .ref r0 => fun e s => match s[r0]? with
    | some (.lst xs) => match compLR r0 own g t d xs.length 0 [] (wipeE e own) s with
      | .ok ys e2 s2 => .ok ys (restE e e2 own) s2
      | _ => .bad
    | some (.dct _ _) => .bad
    | some (.ins _ _) => .bad
    | none => .bad
  | _ => fun _ _ => .bad
section
variable {z : Zx}
theorem compR_go {r0 : Nat} {a : Addr} {own : List Nat} {g : PV → Cd Unit} {t : Cd Bool} {d : Cd PV} {G : Wd} {env1 : Env} {S1 : Stt} {σ : L2.St} {Q : VK} {xs0 : List PV} (hn : G.m[r0]? = some a) (q0 : S1[r0]? = some (.lst xs0)) (A1 : At z.K z.G0 G S1 env1 σ)
    (P : PostF z G σ Q (match compLR r0 own g t d xs0.length 0 [] (wipeE env1 own) S1 with | .ok ys e2 s2 => Out.ok ys (restE env1 e2 own) s2 | _ => .bad)) : ∃ b, V.ref a = .ref b ∧ (∃ xs, SqL z.K G.H b xs) ∧ ∀ D, G.H D = none → ∃ W : Nat → Nat → Hp → Prop, (∃ m, W 0 m (upd G.H D (.lst []))) ∧ ∀ i m H, W i m H →
  ((Itl z.K b).stop i H ∧ Q (.ref D) H) ∨ ((Itl z.K b).go i H ∧ ∃ Nx : Hp → Prop, (∀ H', Nx H' → ∃ m', m' < m ∧ W (i + 1) m' H') ∧ ∀ x H', (Itl z.K b).yld i H x H' → RGc z own g x (wipe σ own) H' fun σ2 H2 => wipe σ2 own = wipe σ own ∧ RTb z t σ2 H2 fun b H3 =>
    if b = true then REb z d σ2 H3 fun y H4 => ∃ acc, H4 D = some (.lst acc) ∧ acc.length < sizeLine ∧ Nx (upd H4 D (.lst (acc ++ [y]))) else Nx H3) := by
  have cur : ∀ {G2 : Wd} {e : Env} {s : Stt} {σ : L2.St} {ys : List PV}, Mon G G2 → At z.K z.G0 G2 s e σ → s[r0]? = some (.lst ys) → ∃ vs, G2.H a = some (.lst vs) ∧ RepL z.K G2 ys vs := fun M A q => A.st.ob r0 a _ (M.at hn) q
  obtain ⟨vs0, ha0, _⟩ := cur (Mon.refl _) A1 q0
  refine ⟨a, rfl, ⟨vs0, SqL.of ha0⟩, ?_⟩
  intro D hD
  have A0 := wipe_at A1 own
  have start : PP z σ Q env1 own G (compLR r0 own g t d xs0.length 0 [] (wipeE env1 own) S1) := by
    cases e : compLR r0 own g t d xs0.length 0 [] (wipeE env1 own) S1 with
    | ok ys e2 s2 => simp only [e] at P; exact P
    | raise c w e2 s2 => simp only [e] at P; exact P.elim
    | bad => simp only [e] at P; exact P.elim
  refine ⟨fun i m H => ∃ G2 e s acc vs, G2.H = H ∧ Mon G G2 ∧ At z.K z.G0 G2 s e (wipe σ own) ∧ Alone z G2 e (wipe σ own) D vs ∧ RepL z.K G2 acc vs ∧ PP z σ Q env1 own G2 (compLR r0 own g t d m i acc e s), ⟨xs0.length, G.fresh D (.lst []), _, _, [], [], rfl, (Ext.fresh hD).mon A1.sure, A0.fresh hD, A0.alone (vs := []) hD, .nil, ?_⟩, ?_⟩
  · exact (lwPP (z := z) (z' := z)).later _ _ _ start ((Ext.fresh hD).mon A1.sure)
  · rintro i m H ⟨G2, e, s, acc, vs, rfl, M, A, al, ra, PQ⟩
    cases q : s[r0]? with
    | none => cases m <;> (unfold compLR at PQ; simp only [q] at PQ; exact PQ.elim)
    | some sl =>
      cases sl with
      | lst ys =>
        obtain ⟨ws, hw, rw_⟩ := cur M A q
        cases hp : ys[i]? with
        | none =>
          have PQ' : PP z σ Q env1 own G2 (.ok acc e s) := by
            cases m <;> (unfold compLR at PQ; simp only [q, hp] at PQ; exact PQ)
          have hl : ws.length ≤ i := by
            rw [← rw_.length]
            exact List.getElem?_eq_none_iff.mp hp
          refine .inl ⟨⟨ws, SqL.of hw, hl⟩, ?_⟩
          have F := rest_at A1 M A
          exact PQ' D vs G2 (Mon.refl _) F ra al.at_ al.nf al.nm al.n0 fun j ho q => by
            obtain ⟨xs, ho⟩ := ho
            obtain ⟨h1, h2⟩ := rest_own (σ := σ) (a := 0) ho
            exact al.no j ⟨xs, h2⟩ (by rw [wipe_get, if_neg h1]; exact q)
        | some p =>
          cases m with
          | zero => unfold compLR at PQ; simp only [q, hp] at PQ; exact PQ.elim
          | succ m =>
            unfold compLR at PQ
            simp only [q, hp] at PQ
            obtain ⟨v, hv, rv⟩ := rw_.get hp
            refine .inr ⟨⟨ws, v, SqL.of hw, hv⟩, fun H' => ∃ G2 e s acc vs, G2.H = H' ∧ Mon G G2 ∧ At z.K z.G0 G2 s e (wipe σ own) ∧ Alone z G2 e (wipe σ own) D vs ∧ RepL z.K G2 acc vs ∧ PP z σ Q env1 own G2 (compLR r0 own g t d m (i + 1) acc e s), fun H' h => ⟨m, Nat.lt_succ_self m, h⟩, fun x H' y => ?_⟩
            obtain ⟨y1, y2⟩ := y
            subst y1
            have hx := y2 ws (SqL.of hw)
            rw [hv] at hx
            cases hx
            have hnD : ¬ ∃ i, IsOwn e i ∧ (wipe σ own)[i]? = some (some (.ref D)) := fun ⟨i, ho, q⟩ => al.no i ho q
            have hD0 : (G2.less e (wipe σ own)).H D = some (.lst vs) := (less_same hnD).trans al.at_
            have keepD : ∀ {G3 : Wd} {S3 : Stt} {e3 : Env} {σ3 : L2.St}, At z.K (G2.less e (wipe σ own)) G3 S3 e3 σ3 → Alone z G3 e3 σ3 D vs := fun {G3 S3 e3 σ3} B =>
              ⟨B.ent.keep D _ hD0 nt_lst al.nm, fun h => (B.ent.fzn D h).elim al.nf (fun h => h.no hD0 nt_lst), fun h => (B.ent.new D h).elim al.nm (fun h => h.no hD0 nt_lst), al.n0,
                fun i ho q => (B.mine i D ho q).no hD0 nt_lst⟩
            refine toGc (lwPP (z := z)) A.aside rv PQ fun env3 S3 σ3 G3 m3 B3 w3 P3 => ⟨w3.trans (wipe_id own), G2.less e (wipe σ own), ?_⟩
            refine toT (lwPP (z := z)) B3 P3 fun b env4 S4 G4 m4 B4 P4 => ?_
            have fin : ∀ {G5 : Wd} {S5 : Stt} {e5 : Env}, At z.K (G2.less e (wipe σ own)) G5 S5 e5 σ3 → At z.K z.G0 G5 S5 (wipeE e5 own) (wipe σ own) ∧ Alone z G5 (wipeE e5 own) (wipe σ own) D vs := fun {G5 S5 e5} B => by
              have hw : wipe σ3 own = wipe σ own := w3.trans (wipe_id own)
              have B' := wipe_at (z := zc z (G2.less e (wipe σ own))) B own
              rw [hw] at B'
              exact ⟨A.back B', keepD B'⟩
            cases b with
            | false =>
              rw [if_neg Bool.false_ne_true] at P4 ⊢
              obtain ⟨F1, F2⟩ := fin B4
              exact ⟨G4, _, S4, acc, vs, rfl, (M.trans m3).trans m4, F1, F2, ra.mon (m3.trans m4), P4⟩
            | true =>
              rw [if_pos rfl] at P4 ⊢
              refine ⟨G2.less e (wipe σ own), toE (lwPP (z := z)) B4 P4 fun w env5 S5 v G5 m5 B5 r5 P5 => ?_⟩
              obtain ⟨F1, F2⟩ := fin B5
              have Ma := m3.trans (m4.trans m5)
              by_cases hz : acc.length < sizeLine
              · rw [if_pos hz] at P5
                refine ⟨vs, F2.at_, by rw [← ra.length]; exact hz, ?_⟩
                obtain ⟨N1, N2, N3⟩ := F1.pokeAlone (vs' := vs ++ [v]) F2
                exact ⟨_, _, S5, acc ++ [w], vs ++ [v], rfl, (M.trans Ma).trans N1, N2, N3, ((ra.mon Ma).snoc r5).mon N1, (lwPP (z := z) (z' := z)).later _ _ _ P5 N1⟩
              · rw [if_neg hz] at P5
                exact P5.elim
      | dct lk kvs => cases m <;> (unfold compLR at PQ; simp only [q] at PQ; exact PQ.elim)
      | ins c fs => cases m <;> (unfold compLR at PQ; simp only [q] at PQ; exact PQ.elim)
theorem compR_rd {dl : Cd PV} {own : List Nat} {g : PV → Cd Unit} {t : Cd Bool} {d : Cd PV} {σ : L2.St} {H : Hp} {Q : VK} (h : RF z (dCompR dl own g t d) σ H Q) : tLc (iList z.K (RE z dl)) (RGc z own g) (RTb z t) (REb z d) own σ H Q := by
  obtain ⟨G, env, S, e, A, P⟩ := h
  subst e
  refine toE lwF A P fun p env1 S1 v G1 m1 A1 r1 P1 => ?_
  cases p with
  | ref n =>
    cases r1 with
    | ref hn =>
      cases q : S1[n]? with
      | none => simp only [q] at P1; exact P1.elim
      | some o =>
        cases o with
        | lst xs =>
          simp only [q] at P1
          exact compR_go hn q A1 P1
        | dct lk kvs => simp only [q] at P1; exact P1.elim
        | ins c fs => simp only [q] at P1; exact P1.elim
  | _ => exact P1.elim
end
section
variable {X : Cx} {z : Zx} {pos px : Pos} {elt tg : Expr} {ifs : List Expr} {scope : Scope} {g : PV → Cd Unit} {t : Cd Bool} {d : Cd PV}
theorem mf_compR {iter : Expr} {dl : Cd PV} (hi : ME X z iter dl) (own : List (Str × Nat)) (hN : X.N.Nodup) {N : List Str} {sc : Scope} (ok : blkC N sc scope own = true)
    (hg : ∀ (s : Shared) (H : Hp) (C : Addr) (cl : List (Str × Addr)) (fp : List Addr), MGc (X.blk s H scope (compEnvC scope cl C X.env) fp) z (own.map (·.2)) tg g)
    (ht : ∀ (s : Shared) (H : Hp) (C : Addr) (cl : List (Str × Addr)) (fp : List Addr), MTsb (X.blk s H scope (compEnvC scope cl C X.env) fp) z ifs t)
    (he : ∀ (s : Shared) (H : Hp) (C : Addr) (cl : List (Str × Addr)) (fp : List Addr), MEb (X.blk s H scope (compEnvC scope cl C X.env) fp) z elt d)
    (hK : z.K = X.K := by rfl) 
    (hc : X.calm = true := by rfl) (hs : ∀ y, foldedSetIterable iter X.env y = pure y := by intro _; rfl) (hXN : X.N = N := by rfl) (hsc : X.env.scope = sc := by rfl) :
    MF X z (.ListComp elt [⟨tg, iter, ifs, 0⟩] scope pos) (dCompR dl (own.map (·.2)) g t d) :=
  (pe_lc hc hN (pi_list hi) (blkOk_by (by rw [hXN, hsc]; exact ok)) hg ht (fun s H C cl fp => peb (he s H C cl fp)) hs).imp fun σ H Q h => by
    rw [← hK]
    exact compR_rd h
end
section
variable {e : Env} {s : Stt} {R : Pr} {QS : Pq Flw}
theorem wp_compRL {r0 : Nat} {own : List Nat} {g : PV → Cd Unit} {t : Cd Bool} {d : Cd PV} {QL : Pq (List PV)} {xs : List PV} (I : Nat → List PV → Env → Stt → Prop)
    (hown : ∀ n acc e s, I n acc e s → s[r0]? = some (SO.lst xs))
    (h1 : ∀ (n : Nat) (p : PV) (acc : List PV) (e : Env) (s : Stt), xs[n]? = some p → I n acc e s → Wp (g p e s) (fun _ e s => Wp (t e s) (fun k e s => (k = true → Wp (d e s) (fun w e s => acc.length < sizeLine ∧ I (n + 1) (acc ++ [w]) (wipeE e own) s) R) ∧ (k = false → I (n + 1) acc (wipeE e own) s)) R) R)
    (h2 : ∀ acc e s, I xs.length acc e s → QL acc e s) : ∀ (f n : Nat) (acc : List PV) (e : Env) (s : Stt), n + f = xs.length → I n acc e s → Wp (compLR r0 own g t d f n acc e s) QL R
  | 0, n, acc, e, s, hn, hI => by
    have hx : xs[n]? = none := List.getElem?_eq_none (by omega)
    have hn' : n = xs.length := by omega
    unfold compLR
    simp only [hown n acc e s hI, hx]
    rw [hn'] at hI
    exact h2 acc e s hI
  | f + 1, n, acc, e, s, hn, hI => by
    have hlt : n < xs.length := by omega
    have hx := List.getElem?_eq_getElem hlt
    unfold compLR
    simp only [hown n acc e s hI, hx]
    refine wp_bnd (Wp.mono (h1 n _ acc e s hx hI) (fun _ e1 s1 q1 => wp_bnd (Wp.mono q1 (fun k e2 s2 ⟨q2, q3⟩ => ?_) fun _ _ _ _ h => h)) fun _ _ _ _ h => h)
    cases k with
    | false =>
      rw [if_neg Bool.false_ne_true]
      exact wp_compRL I hown h1 h2 f (n + 1) acc (wipeE e2 own) s2 (by omega) (q3 rfl)
    | true =>
      rw [if_pos rfl]
      refine wp_bnd (Wp.mono (q2 rfl) (fun w e3 s3 ⟨hl, q4⟩ => ?_) fun _ _ _ _ h => h)
      rw [if_pos hl]
      exact wp_compRL I hown h1 h2 f (n + 1) (acc ++ [w]) (wipeE e3 own) s3 (by omega) q4
theorem wp_compR {dl : Cd PV} {own : List Nat} {g : PV → Cd Unit} {t : Cd Bool} {d : Cd PV} {QL : Pq (List PV)}
    (h : Wp (dl e s) (fun p e s => ∃ r0 xs, p = .ref r0 ∧ s[r0]? = some (SO.lst xs) ∧ ∃ I : Nat → List PV → Env → Stt → Prop, I 0 [] (wipeE e own) s ∧ (∀ n acc e s, I n acc e s → s[r0]? = some (SO.lst xs)) ∧
      (∀ (n : Nat) (p : PV) (acc : List PV) (e : Env) (s : Stt), xs[n]? = some p → I n acc e s → Wp (g p e s) (fun _ e s => Wp (t e s) (fun k e s => (k = true → Wp (d e s) (fun w e s => acc.length < sizeLine ∧ I (n + 1) (acc ++ [w]) (wipeE e own) s) (fun _ _ _ _ => False)) ∧ (k = false → I (n + 1) acc (wipeE e own) s)) (fun _ _ _ _ => False)) (fun _ _ _ _ => False)) ∧
      ∀ acc e2 s, I xs.length acc e2 s → QL acc (restE e e2 own) s) R) : Wp (dCompR dl own g t d e s) QL R :=
  wp_bnd (Wp.mono h (fun p e s ⟨r0, xs, q1, hx, I, h0, hown, h1, h2⟩ => by
    subst q1
    have q := wp_compRL (R := fun _ _ _ _ => False) (QL := fun acc e2 s => QL acc (restE e e2 own) s) (own := own) (g := g) (t := t) (d := d) I hown h1 h2 xs.length 0 [] (wipeE e own) s (by omega) h0
    simp only [hx]
    cases r : compLR r0 own g t d xs.length 0 [] (wipeE e own) s with
    | ok ys e2 s2 => rw [r] at q; exact q
    | raise c w e2 s2 => rw [r] at q; exact q.elim
    | bad => rw [r] at q; exact q.elim) fun _ _ _ _ h => h)
end
namespace I
section
variable {e : Env} {s : Stt} {R : Pr} {QS : Pq Flw}
theorem wp_compR {dl : Cd PV} {own : List Nat} {g : PV → Cd Unit} {t : Cd Bool} {d : Cd PV} {QL : Pq (List PV)}
    (h : Wp (dl e s) (fun p e s => ∃ r0 xs, p = .ref r0 ∧ s[r0]? = some (SO.lst xs) ∧ ∃ I : Nat → List PV → Env → Stt → Prop, I 0 [] (wipeE e own) s ∧ (∀ n acc e s, I n acc e s → s[r0]? = some (SO.lst xs)) ∧
      (∀ (n : Nat) (p : PV) (acc : List PV) (e : Env) (s : Stt), xs[n]? = some p → I n acc e s → Wp (g p e s) (fun _ e s => Wp (t e s) (fun k e s => (k = true → Wp (d e s) (fun w e s => acc.length < sizeLine ∧ I (n + 1) (acc ++ [w]) (wipeE e own) s) (fun _ _ _ _ => False)) ∧ (k = false → I (n + 1) acc (wipeE e own) s)) (fun _ _ _ _ => False)) (fun _ _ _ _ => False)) ∧
      ∀ acc e2 s, I xs.length acc e2 s → QL acc (restE e e2 own) s) R) : Wp (dCompR dl own g t d e s) QL R := by
  simp only [Wp_eq] at *
  exact FS.wp_compR h
end
end I
end FS
set_option Elab.async false
set_option linter.all false
set_option maxRecDepth 100000
set_option maxHeartbeats 4000000
/-! FsSet: sorted(set(xs)), xs a list or tuple of ints, fewer than 64. -/
namespace FS
open PySem PySem.Spec PyProof.Rows L2
end FS
set_option Elab.async false
set_option linter.all false
set_option maxRecDepth 100000
set_option maxHeartbeats 2000000
/-! FsSrtR: sorted(xs), xs a list of tuples of ints of one length, any number; all(xs) of a list of truths. -/
namespace FS
open PySem PySem.Spec PyProof.Rows L2
section
variable {X : Cx} {z : Zx} {pos p : Pos}
theorem each_of {α β : Type} {R : β → α → Prop} {S : α → β → Prop} (h : ∀ a b, R b a → S a b) : ∀ {us : List α} {L : List β}, us.length = L.length → (∀ (i : Nat) (u : α) (b : β), us[i]? = some u → L[i]? = some b → R b u) → PySem.W.EachIs S us L
  | [], [], _, _ => .nil
  | u :: us, b :: L, hl, hr => .cons (h u b (hr 0 u b rfl rfl)) (each_of h (by simpa using hl) fun i u' b' h1 h2 => hr (i + 1) u' b' h1 h2)
  | [], _ :: _, hl, _ => by simp at hl
  | _ :: _, [], hl, _ => by simp at hl
theorem vals_get : ∀ {vs : List V} {us : List Value}, Vals vs us → ∀ (i : Nat) (v : V) (u : Value), vs[i]? = some v → us[i]? = some u → RelV v u
  | _, _, .nil, i, v, u, h, _ => by simp at h
  | _, _, .cons r t, 0, v, u, h1, h2 => by
    cases h1
    cases h2
    exact r
  | _, _, .cons r t, i + 1, v, u, h1, h2 => vals_get t i v u h1 h2
/-! all(xs) of truths -/
end
end FS
set_option Elab.async false
set_option linter.all false
set_option maxRecDepth 100000
set_option maxHeartbeats 2000000
/-! FsCls: instances of the program's own classes, in the store. -/
namespace L2
open PySem PySem.Spec PyProof.Rows
section
variable {X : Cx} {CX : CXT} {k : Nat} {f C : Addr} {fd : FuncData} {ps : List Str} {sp : Sp} {E : St → XK} {x m : Str} {p pos apos : Pos} {e o : Expr} {es : List Expr} {ta : TE} {t : TA}
/-- o.m(..), where what is raised is wished for at the caller's slots -/
def tMethSD (C : Addr) (m : Str) (sp : Sp) (E : St → XK) (ta : TE) (t : TA) : TE := fun σ H Q => ta σ H fun x H1 => ∃ a dx fs, x = .ref a ∧ H1 a = some (.ins C dx fs) ∧ fs.lookup m = none ∧ t σ H1 fun vs H2 => sp (x :: vs) H2 Q (E σ)
theorem pe_methSD {pl : Sem Bool} (he : PE X o ta) (c : Cls X.K C) (hm : Meth X.K C m f) (F : FnOk X.prog X.w X.K X.mg X.base CX k f fd ps sp) (hr : Room k X.A) (hb : Binds X.K fd ps []) (hx : ∀ σ, PassesAt CX X σ (E σ)) (ha : PA X (e :: es) t)
    (hst : starEach (e :: es) X.env = (false, eval e X.env) :: starEach es X.env := by rfl) (hpl : (backTo pos (starEach es X.env)).any (·.1) = false := by rfl)
    (ht : eval (.Call (.Attribute o m apos) (e :: es) [] pos) X.env = (do
      let ov ← eval o X.env
      standAt apos.atName
      let (f, first) ← holding [ov] (getMethod ov m pl)
      callWith pos f first (backTo pos (starEach (e :: es) X.env)) (backToKw pos (keywordEach [] X.env))) := by rfl) :
    PE X (.Call (.Attribute o m apos) (e :: es) [] pos) (tMethSD C m sp E ta t) := by
  constructor
  intro pins s σ H Q I h
  refine PySem.W.methodCall_KW (pl := pl) (thn (he.run pins s σ H _ I h) fun u s1 hh => ?_) ht
  obtain ⟨x, H1, I1, rx, a, dx, fs, ex, ea, l, q⟩ := hh
  subst ex
  obtain rfl : u = Value.ref a := rx
  refine getmeth_ok I1 ea c hm l ?_
  refine PySem.W.callWith_K (first := [.ref a]) (h₀ := X.base) I.ok.mod.kin hm.kp (thn (ha.run pos pins s1 σ H1 _ I1 q) fun us s2 h2 => ?_) hst hpl
  obtain ⟨vs, H2, I2, r, q2⟩ := h2
  exact ⟨I2.kIn, run_fnSD (us := .ref a :: us) (vs := .ref a :: vs) (dvs := []) F hr hb .nil (hx σ) I2 (.cons rfl r) (by rw [List.append_nil]; exact q2)⟩
theorem pe_methSD0 {pl : Sem Bool} (he : PE X o ta) (c : Cls X.K C) (hm : Meth X.K C m f) (F : FnOk X.prog X.w X.K X.mg X.base CX k f fd ps sp) (hr : Room k X.A) (hb : Binds X.K fd ps []) (hx : ∀ σ, PassesAt CX X σ (E σ))
    (ht : eval (.Call (.Attribute o m apos) [] [] pos) X.env = (do
      let ov ← eval o X.env
      standAt apos.atName
      let (f, first) ← holding [ov] (getMethod ov m pl)
      callWith pos f first (backTo pos (starEach [] X.env)) (backToKw pos (keywordEach [] X.env))) := by rfl) :
    PE X (.Call (.Attribute o m apos) [] [] pos) (tMethSD C m sp E ta tNil) := by
  constructor
  intro pins s σ H Q I h
  refine PySem.W.methodCall_KW (pl := pl) (thn (he.run pins s σ H _ I h) fun u s1 hh => ?_) ht
  obtain ⟨x, H1, I1, rx, a, dx, fs, ex, ea, l, q⟩ := hh
  subst ex
  obtain rfl : u = Value.ref a := rx
  refine getmeth_ok I1 ea c hm l ?_
  exact PySem.W.callWith_K0 (first := [.ref a]) I1.kIn hm.kp (run_fnSD (us := [.ref a]) (vs := [.ref a]) (dvs := []) F hr hb .nil (hx σ) I1 (.cons rfl .nil) (by rw [List.append_nil]; exact q))
/-- C(..), likewise -/
def tMakeSD (C : Addr) (sp : Sp) (E : St → XK) (t : TA) : TE := fun σ H Q => t σ H fun vs H1 => ∀ x dx, H1 x = none → H1 dx = none → dx ≠ x →
  sp (.ref x :: vs) (upd (upd H1 dx (.own x)) x (.ins C dx [])) (fun v H2 => v = .non ∧ Q (.ref x) H2) (E σ)
theorem pe_makeSD (M : Mk X.K C f) (F : FnOk X.prog X.w X.K X.mg X.base CX k f fd ps sp) (hr : Room (k + 1) X.A) (hg : Gl X x) (hm : X.mg x = some (.ref C)) (hb : Binds X.K fd ps []) (hx : ∀ σ, PassesAt CX X σ (E σ))
    (ha : PA X (e :: es) t) (hdb : (x == ("__debug__" : Str)) = false := by decide) (he : starEach (e :: es) X.env = (false, eval e X.env) :: starEach es X.env := by rfl) (hpl : (backTo pos (starEach es X.env)).any (·.1) = false := by rfl) :
    PE X (.Call (.Name x p) (e :: es) [] pos) (tMakeSD C sp E t) := by
  constructor
  intro pins s σ H Q I h
  refine wpAny_Call_Name_kw (ld_glob I hg hm ?_ hdb)
  refine PySem.W.callWith_K (h₀ := X.base) I.ok.mod.kin M.kp (thn (ha.run pos pins s σ H _ I h) fun us s1 hh => ?_) he hpl
  obtain ⟨vs, H1, I1, r, q⟩ := hh
  refine ⟨I1.kIn, ?_⟩
  have hq := q (s1.heap.objs.size + 1) s1.heap.objs.size (I1.hok.fresh (Nat.le_succ _)) (I1.hok.fresh (Nat.le_refl _)) (Nat.ne_of_lt (Nat.lt_succ_self _))
  have I2 := Inv.made (C := C) I1
  have r2 : Vals (V.ref (s1.heap.objs.size + 1) :: vs) (Value.ref (s1.heap.objs.size + 1) :: us) := .cons rfl r
  have hl : (Value.ref (s1.heap.objs.size + 1) :: us).length = ps.length := by
    have z := r2.length
    rw [F.len _ _ _ _ hq] at z
    exact z.symm
  have bb := hb _ (Value.ref (s1.heap.objs.size + 1) :: us) I2.kIn (by rw [List.append_nil]; exact hl)
  rw [List.append_nil] at bb
  refine wpAny_call (make_map (f := f) I1.kIn M.makes M.init (beq_iff_eq.mp M.fn) (codeAny_mono (F.run _ X.stack _ _ ⟨Value.ref (s1.heap.objs.size + 1) :: us, []⟩ _ _ _ (E σ) (hr.make C us []) (I2.env0.make C us []) bb r2 hq) fun r s' hq' => ?_))
  cases r with
  | error e => exact hx σ pins _ _ e s' I2 hq'
  | ok fl =>
    cases fl with
    | ret u =>
      obtain ⟨v, H', I3, rv, ev, q3⟩ := I2.after hq'
      subst ev
      exact ⟨rv, ⟨V.ref (s1.heap.objs.size + 1), H', I3, rfl, q3⟩⟩
    | next => exact False.elim hq'
    | brk => exact False.elim hq'
    | cont => exact False.elim hq'
end
end L2
namespace FS
open PySem PySem.Spec PyProof.Rows L2
open LamX (TabS Tabs)
/-! ### as data -/
def putP' (f : Str) (w : PV) : List (Str × PV) → List (Str × PV)
  | [] => [(f, w)]
  | (g, x) :: r => if g = f then (g, w) :: r else (g, x) :: putP' f w r
def insAt (s : Stt) (p : PV) (c : Str) : Option (Nat × List (Str × PV)) := match p with
  | .ref n => match s[n]? with
    | some (.ins c' fs) => if c' = c then some (n, fs) else none
    | _ => none
  | _ => none
theorem insAt_eq {s : Stt} {p : PV} {c : Str} {n : Nat} {fs : List (Str × PV)} (h : insAt s p c = some (n, fs)) : p = .ref n ∧ s[n]? = some (.ins c fs) := by
  unfold insAt at h
  cases p with
  | ref m =>
    cases e : s[m]? with
    | none => simp only [e] at h; cases h
    | some so =>
      cases so with
      | lst xs => simp only [e] at h; cases h
      | dct lk kvs => simp only [e] at h; cases h
      | ins c' gs =>
        simp only [e] at h
        by_cases hc : c' = c
        · rw [if_pos hc] at h
          cases h
          subst hc
          exact ⟨rfl, e⟩
        · rw [if_neg hc] at h
          cases h
  | _ => cases h
theorem insAt_of {s : Stt} {c : Str} {n : Nat} {fs : List (Str × PV)} (h : s[n]? = some (.ins c fs)) : insAt s (.ref n) c = some (n, fs) := by
  unfold insAt
  simp only [h, if_true]
section
variable {K : PySem.W.Frag} {G : Wd}
theorem look_rep {f : Str} : ∀ {fs : List (Str × PV)} {vs : List V}, RepL K G (fs.map (·.2)) vs → (∀ w, fs.lookup f = some w → ∃ v, ((fs.map (·.1)).zip vs).lookup f = some v ∧ Rep K G w v) ∧ (fs.lookup f = none → ((fs.map (·.1)).zip vs).lookup f = none)
  | [], _, r => by
    cases r
    exact ⟨fun w h => (by cases h), fun _ => rfl⟩
  | (g, q) :: fs, _, r => by
    cases r with
    | cons r0 rr =>
      rename_i v vs
      obtain ⟨h1, h2⟩ := look_rep (f := f) rr
      simp only [List.map_cons, List.zip_cons_cons, List.lookup_cons]
      cases e : (f == g) with
      | true => exact ⟨fun w h => (by cases h; exact ⟨v, rfl, r0⟩), fun h => (by cases h)⟩
      | false => exact ⟨h1, h2⟩
theorem putF_rep {f : Str} {w : PV} {v : V} (rw_ : Rep K G w v) : ∀ {fs : List (Str × PV)} {vs : List V}, RepL K G (fs.map (·.2)) vs → ∃ vs', putF f v ((fs.map (·.1)).zip vs) = ((putP' f w fs).map (·.1)).zip vs' ∧ RepL K G ((putP' f w fs).map (·.2)) vs'
  | [], _, r => by
    cases r
    exact ⟨[v], rfl, .cons rw_ .nil⟩
  | (g, q) :: fs, _, r => by
    cases r with
    | cons r0 rr =>
      rename_i u us
      obtain ⟨vs', h1, h2⟩ := putF_rep (f := f) rw_ rr
      by_cases e : g = f
      · refine ⟨v :: us, ?_, ?_⟩
        · simp only [List.map_cons, List.zip_cons_cons, putP', if_pos e]
          show (if g = f then (g, v) :: _ else _) = _
          rw [if_pos e]
        · simp only [putP', if_pos e]
          exact .cons rw_ rr
      · refine ⟨u :: vs', ?_, ?_⟩
        · simp only [List.map_cons, List.zip_cons_cons, putP', if_neg e]
          show (if g = f then _ else (g, u) :: putF f v _) = _
          rw [if_neg e, h1]
        · simp only [putP', if_neg e]
          exact .cons r0 h2
theorem putP'_len (f : Str) (w : PV) : ∀ fs : List (Str × PV), (putP' f w fs).length ≤ fs.length + 1
  | [] => by simp [putP']
  | (g, x) :: r => by
    have ih := putP'_len f w r
    unfold putP'
    by_cases e : g = f
    · rw [if_pos e]; simp
    · rw [if_neg e]; simp only [List.length_cons]; omega
end
/-! ### an instance changed -/
theorem nu_pokeI {H : Hp} {a c C dx : Addr} {fs : List (Str × V)} (h : Nu (upd H a (.ins C dx fs)) c) : Nu H c := by
  have hne : c ≠ a := fun z => by subst z; exact h.no upd_same nt_ins
  rcases h with h | ⟨ps, h⟩
  · exact .inl (by rw [upd_ne hne] at h; exact h)
  · exact .inr ⟨ps, by rw [upd_ne hne] at h; exact h⟩
theorem tab_pokeI {H : Hp} {a C dx : Addr} {fs : List (Str × V)} {o : HO} (e : H a = some (.ins C dx fs)) {P : Addr} {q : Str} (t : TabS H P q) : TabS (upd H a o) P q := by
  obtain ⟨ps, h1, h2, h3⟩ := t
  refine ⟨ps, ?_, h2, fun pos cv h => ?_⟩
  · rw [upd_ne (fun z => by rw [z, e] at h1; cases h1)]
    exact h1
  · obtain ⟨c, e1, e2⟩ := h3 pos cv h
    refine ⟨c, e1, ?_⟩
    rw [upd_ne (fun z => by rw [z, e] at e2; cases e2)]
    exact e2
section
variable {z : Zx} {G : Wd} {S : Stt} {env : Env} {σ : L2.St} {n : Nat}
theorem At.pokeI {c : Str} {fs' fs : List (Str × PV)} {a C dx : Addr} {vs vs' : List V} (A : At z.K z.G0 G S env σ) (hm : G.m[n]? = some a) (h : S[n]? = some (.ins c fs)) (hC : PySem.W.nsIn z.K mainGlobals c = some (some (.ref C))) (ea : G.H a = some (.ins C dx ((fs.map (·.1)).zip vs))) (r : RepL z.K G (fs'.map (·.2)) vs') :
    Mon G ⟨G.m, G.fz, upd G.H a (.ins C dx ((fs'.map (·.1)).zip vs')), G.T⟩ ∧ At z.K z.G0 ⟨G.m, G.fz, upd G.H a (.ins C dx ((fs'.map (·.1)).zip vs')), G.T⟩ (S.set n (.ins c fs')) env σ := by
  have ham : a ∈ G.m := List.mem_of_getElem? hm
  have n1 := A.st.nf a ham
  have M : Mon G ⟨G.m, G.fz, upd G.H a (.ins C dx ((fs'.map (·.1)).zip vs')), G.T⟩ := ⟨⟨[], by simp⟩, fun c hc => ⟨hc, upd_ne (fun z => n1 (by rw [← z]; exact hc))⟩⟩
  refine ⟨M, ⟨by rw [List.length_set]; exact A.st.len, A.st.nd, A.st.nf, fun j c o h1 h2 => ?_⟩, A.en.over M fun j c ho e => ?_, ⟨A.ent.pre, A.ent.new, A.ent.fz, A.ent.fzn, fun c o h1 nt h2 => ?_, fun c hc => ?_, A.ent.T, fun h p hp => tab_pokeI ea (A.ent.tb h p hp)⟩, A.mine, fun c hc => ?_⟩
  · rw [getElem?_set'] at h2
    by_cases hj : n = j
    · subst hj
      rw [if_pos rfl] at h2
      have e : c = a := by
        have : G.m[n]? = some c := h1
        rw [hm] at this
        exact (Option.some.inj this).symm
      split at h2
      · cases h2
        subst e
        exact ⟨C, dx, vs', hC, upd_same, r.mon M⟩
      · cases h2
    · rw [if_neg hj] at h2
      have hne : c ≠ a := fun z => hj (by
        have h1' : G.m[j]? = some c := h1
        obtain ⟨l1, q1⟩ := List.getElem?_eq_some_iff.mp hm
        obtain ⟨l2, q2⟩ := List.getElem?_eq_some_iff.mp h1'
        exact (List.getElem_inj A.st.nd).mp (by rw [q1, q2, z]))
      show RepO z.K _ o (upd G.H a _ c)
      rw [upd_ne hne]
      exact (A.st.ob j c o h1 h2).mono M
  · obtain ⟨ys, ho⟩ := ho
    obtain ⟨b, ws, q1, q2, _, q4, q5⟩ := A.en.own j ys ho
    rw [e] at q1
    cases q1
    exact ⟨upd_ne (fun z => q5 (by rw [z]; exact ham)), q4, q5⟩
  · have hne : c ≠ a := fun z => by
      rcases A.ent.new a ham with q | q
      · exact h2 (by rw [z]; exact q)
      · rw [z] at h1; exact q.no h1 nt
    exact (upd_ne hne).trans (A.ent.keep c o h1 nt h2)
  · exact A.ent.there c (nu_pokeI hc)
  · have hne : c ≠ a := fun z => n1 (by rw [← z]; exact hc)
    obtain ⟨o, q, nt⟩ := A.sure c hc
    exact ⟨o, (upd_ne hne).trans q, nt⟩
/-- the store grows by a new thing -/
theorem At.shareO {a : Addr} {so : SO} (A : At z.K z.G0 G S env σ) (ro : RepO z.K G so (G.H a)) (nf : ¬ G.fz a) (nm : a ∉ G.m) (n0 : Nu z.G0.H a) (no : ∀ i : Nat, IsOwn env i → σ[i]? ≠ some (some (.ref a))) :
    Mon G ⟨G.m ++ [a], G.fz, G.H, G.T⟩ ∧ At z.K z.G0 ⟨G.m ++ [a], G.fz, G.H, G.T⟩ (S ++ [so]) env σ := by
  have M : Mon G ⟨G.m ++ [a], G.fz, G.H, G.T⟩ := ⟨⟨[a], rfl⟩, fun b h => ⟨h, rfl⟩⟩
  refine ⟨M, ⟨⟨by simp [A.st.len], ?_, fun b hb h => ?_, fun i b o h1 h2 => ?_⟩, A.en.over M fun i b ho e => ⟨rfl, ?_, fun hb => ?_⟩, ⟨?_, fun b hb => ?_, A.ent.fz, A.ent.fzn, A.ent.keep, A.ent.there, A.ent.T, A.ent.tb⟩, A.mine, A.sure⟩⟩
  · exact List.nodup_append.mpr ⟨A.st.nd, by simp, fun x hx y hy => by
      rw [List.mem_singleton.mp hy]
      exact fun e => nm (by rw [← e]; exact hx)⟩
  · rcases List.mem_append.mp hb with q | q
    · exact A.st.nf b q h
    · rw [List.mem_singleton.mp q] at h
      exact nf h
  · have h1 : (G.m ++ [a])[i]? = some b := h1
    by_cases hi : i < G.m.length
    · rw [List.getElem?_append_left hi] at h1
      rw [List.getElem?_append_left (by rw [← A.st.len]; exact hi)] at h2
      exact (A.st.ob i b o h1 h2).mono M
    · rw [List.getElem?_append_right (by omega)] at h1
      rw [List.getElem?_append_right (by rw [← A.st.len]; omega), ← A.st.len] at h2
      have hq : i - G.m.length = 0 := Classical.byContradiction fun hne => by
        rw [List.getElem?_eq_none (by simp; omega)] at h1
        cases h1
      rw [hq] at h1 h2
      have e1 : a = b := Option.some.inj h1
      have e2 : so = o := Option.some.inj h2
      subst e1 e2
      exact ro.mono M
  · obtain ⟨xs, ho⟩ := ho
    obtain ⟨c, ws, e1, _, _, n1, _⟩ := A.en.own i xs ho
    rw [e] at e1
    cases e1
    exact n1
  · rcases List.mem_append.mp hb with q | q
    · obtain ⟨xs, ho⟩ := ho
      obtain ⟨c, ws, e1, _, _, _, n2⟩ := A.en.own i xs ho
      rw [e] at e1
      cases e1
      exact n2 q
    · rw [List.mem_singleton.mp q] at e
      exact no i ho e
  · obtain ⟨r', e⟩ := A.ent.pre
    exact ⟨r' ++ [a], by show G.m ++ [a] = _; rw [e, List.append_assoc]⟩
  · rcases List.mem_append.mp hb with q | q
    · exact A.ent.new b q
    · rw [List.mem_singleton.mp q]
      exact .inr n0
end
/-! ### what the written part says of a class -/
/-- the class c has instances with the field f -/
structure FldOk (K : PySem.W.Frag) (c f : Str) : Prop where
  ex : ∃ C, PySem.W.nsIn K mainGlobals c = some (some (.ref C)) ∧ Cls K C ∧ NoAttr K C f
structure Dm (P : Program) (w : World) (K : PySem.W.Frag) (mg : Str → Option Value) (base : Heap) (k : Nat) (c m : Str) (n : Nat) (den : List PV → Stt → Res) : Prop where
  ex : ∃ (C f : Addr) (fd : FuncData) (ps : List Str), PySem.W.nsIn K mainGlobals c = some (some (.ref C)) ∧ Cls K C ∧ Meth K C m f ∧ FnOk P w K mg base (L2.CX P w) k f fd ps (spD K mg n den) ∧ Binds K fd ps []
structure DmT (P : Program) (w : World) (K : PySem.W.Frag) (mg : Str → Option Value) (base : Heap) (T : List (Addr × Str)) (k : Nat) (c m : Str) (n : Nat) (den : List PV → Stt → Res) : Prop where
  ex : ∃ (C f : Addr) (fd : FuncData) (ps : List Str), PySem.W.nsIn K mainGlobals c = some (some (.ref C)) ∧ Cls K C ∧ Meth K C m f ∧ FnOk P w K mg base (L2.CX P w) k f fd ps (spDT K mg T n den) ∧ Binds K fd ps []
structure Dk (P : Program) (w : World) (K : PySem.W.Frag) (mg : Str → Option Value) (base : Heap) (k : Nat) (c : Str) (n : Nat) (den : List PV → Stt → Res) : Prop where
  ex : ∃ (C f : Addr) (fd : FuncData) (ps : List Str), PySem.W.nsIn K mainGlobals c = some (some (.ref C)) ∧ mg c = some (.ref C) ∧ Mk K C f ∧ FnOk P w K mg base (L2.CX P w) k f fd ps (spD K mg n den) ∧ Binds K fd ps []
/-! ### fields -/
def dFld (c f : Str) (d : Cd PV) : Cd PV := bnd d fun p => fun e s => match insAt s p c with
  | some (_, fs) => match fs.lookup f with
    | some w => .ok w e s
    | none => .bad
  | none => .bad
def dSetF (c f : Str) (d dv : Cd PV) : Cd Flw := bnd dv fun w => bnd d fun p => fun e s => match insAt s p c with
  | some (n, fs) => if fs.length < 1000 then .ok .next e (s.set n (.ins c (putP' f w fs))) else .bad
  | none => .bad
section
variable {X : Cx} {z : Zx} {o value : Expr} {d dv : Cd PV} {c f : Str} {pos pos' : Pos}
theorem me_fld (F : FldOk X.K c f) (h : ME X z o d) (hK : z.K = X.K := by rfl) (hb : attributeBase o f X.env (eval o X.env) = eval o X.env := by rfl) : ME X z (.Attribute o f pos) (dFld c f d) := by
  obtain ⟨C, hC, cl, na⟩ := F.ex
  refine (pe_fld h hb).imp fun σ H Q ⟨G, env, S, e, A, P⟩ => ?_
  subst e
  refine toE lwE A P fun p env1 S1 v G1 m1 A1 r1 P1 => ?_
  cases hi : insAt S1 p c with
  | none => simp only [hi] at P1; exact P1.elim
  | some nf =>
    obtain ⟨n, fs⟩ := nf
    simp only [hi] at P1
    obtain ⟨rfl, hs⟩ := insAt_eq hi
    cases r1 with
    | ref hn =>
      rename_i a
      obtain ⟨C', dx, vs, hC', ea, rr⟩ : RepO z.K G1 (.ins c fs) (G1.H a) := A1.st.ob n a _ hn hs
      rw [hK, hC] at hC'
      cases hC'
      cases hl : fs.lookup f with
      | none => simp only [hl] at P1; exact P1.elim
      | some w =>
        simp only [hl] at P1
        obtain ⟨v, hv, rv⟩ := (look_rep rr).1 w hl
        exact ⟨a, C, dx, _, v, rfl, ea, cl, na, hv, P1 v G1 (Mon.refl _) A1 rv⟩
theorem ms_fld (F : FldOk X.K c f) (h : ME X z o d) (hv : ME X z value dv) (hK : z.K = X.K := by rfl) (hs : swapsWith value (some (.Attribute o f pos')) pos.line X.env = pure false := by rfl) : MS X z (.Assign [.Attribute o f pos'] value pos) (dSetF c f d dv) := by
  obtain ⟨C, hC, cl, na⟩ := F.ex
  refine PS.imp (ps_fld h hv hs) fun D σ H ⟨G, env, S, e, A, P⟩ => ?_
  subst e
  refine toE lwS A P fun w env1 S1 y G1 m1 A1 ry P1 => toE lwS A1 P1 fun p env2 S2 v G2 m2 A2 r2 P2 => ?_
  cases hi : insAt S2 p c with
  | none => simp only [hi] at P2; exact P2.elim
  | some nf =>
    obtain ⟨n, fs⟩ := nf
    simp only [hi] at P2
    obtain ⟨rfl, hs2⟩ := insAt_eq hi
    by_cases hl : fs.length < 1000
    · rw [if_pos hl] at P2
      cases r2 with
      | ref hn =>
        rename_i a
        obtain ⟨C', dx, vs, hC', ea, rr⟩ : RepO z.K G2 (.ins c fs) (G2.H a) := A2.st.ob n a _ hn hs2
        have hC2 := hC'
        rw [hK, hC] at hC'
        cases hC'
        obtain ⟨vs', h1, h2⟩ := putF_rep (f := f) (ry.mon m2) rr
        obtain ⟨M, A3⟩ := A2.pokeI hn hs2 hC2 ea h2
        refine ⟨a, C, dx, _, rfl, ea, cl, na, ?_, ?_⟩
        · rw [List.length_zip, List.length_map]
          exact Nat.lt_of_le_of_lt (Nat.min_le_left _ _) hl
        · rw [h1]
          exact P2 σ _ M A3
    · rw [if_neg hl] at P2
      exact P2.elim
end
/-! ### methods -/
def runM (n : Nat) (den : List PV → Stt → Res) (p : PV) (ps : List PV) : Cd PV := if ps.length + 1 = n then fun e s => match den (p :: ps) s with
  | .ok w s' => .ok w e s'
  | .raise c w s' => .raise c w e s'
  | .bad => .bad
  else fun _ _ => .bad
def dMeth (c m : Str) (n : Nat) (den : List PV → Stt → Res) (d : Cd PV) (da : Cd (List PV)) : Cd PV := bnd d fun p => fun e s => match insAt s p c with
  | some (_, fs) => if fs.lookup m = none then bnd da (fun ps => runM n den p ps) e s else .bad
  | none => .bad
def dMake (c : Str) (n : Nat) (den : List PV → Stt → Res) (da : Cd (List PV)) : Cd PV := bnd da fun ps => if ps.length + 1 = n then fun e s => match den (.ref s.length :: ps) (s ++ [.ins c []]) with
  | .ok .non s' => .ok (.ref s.length) e s'
  | .ok _ _ => .bad
  | .raise c w s' => .raise c w e s'
  | .bad => .bad
  else fun _ _ => .bad
section
variable {X : Cx} {z : Zx} {pos p apos : Pos} {c m : Str} {n : Nat} {den : List PV → Stt → Res} {o e : Expr} {es : List Expr} {d : Cd PV} {da : Cd (List PV)}
/-- what a promise asks is at hand -/
def SpOk (z : Zx) (n : Nat) (den : List PV → Stt → Res) (sp : Sp) : Prop := ∀ {G : Wd} {S : Stt} {env : Env} {σ : L2.St} {qs : List PV} {vs : List V} {Q : VK} {E : XK}, At z.K z.G0 G S env σ → RepL z.K G qs vs → vs.length = n → PostD z.K z.mg G Q E (den qs S) → sp vs G.H Q E
theorem spok : SpOk z n den (spD z.K z.mg n den) := fun A r hl P => ⟨_, _, _, rfl, r, A.st, A.sure, hl, P⟩
theorem spokT {T : List (Addr × Str)} (hT : z.G0.T = T ∧ Tabs T z.G0.H) : SpOk z n den (spDT z.K z.mg T n den) := fun {G S env σ qs vs Q E} A r hl P => by
  have hT1 : G.T = T ∧ Tabs T G.H := by
    refine ⟨A.ent.T.trans hT.1, ?_⟩
    have q := A.ent.tb (by rw [hT.1]; exact hT.2)
    rw [hT.1] at q
    exact q
  exact ⟨_, _, _, rfl, hT1, r, A.st, A.sure, hl, P⟩
theorem runM_rd {sp : Sp} (so : SpOk z n den sp) {G : Wd} {S : Stt} {env : Env} {σ : L2.St} {ps : List PV} {vs : List V} {p : PV} {v : V} {Q : VK} (A : At z.K z.G0 G S env σ) (r : RepL z.K G ps vs) (r0 : Rep z.K G p v) (P : Post z G σ Q (runM n den p ps env S)) :
    sp (v :: vs) G.H Q (WE z.W σ) := by
  unfold runM at P
  by_cases hl : ps.length + 1 = n
  · rw [if_pos hl] at P
    refine so (qs := p :: ps) A (.cons r0 r) (by rw [List.length_cons, ← r.length]; exact hl) ?_
    cases e : den (p :: ps) S with
    | bad => simp only [e] at P; exact P.elim
    | ok p S2 =>
      simp only [e] at P
      exact fun v G' en m s su r => P v G' m (A.call en m s su) r
    | raise c w S2 =>
      simp only [e] at P
      exact fun cls d v G' en m s su h1 h0 h2 r => P σ G' cls d v m (A.call en m s su) h1 (A.ent.there d h0) h2 r
  · rw [if_neg hl] at P
    exact P.elim
theorem meth_rd {sp : Sp} {C : Addr} {d : Cd PV} (hC : PySem.W.nsIn z.K mainGlobals c = some (some (.ref C))) (so : SpOk z n den sp) {σ : L2.St} {H : Hp} {Q : VK} (h : RE z (dMeth c m n den d da) σ H Q) : tMethSD C m sp (fun σ => WE z.W σ) (RE z d) (RA z da) σ H Q := by
  obtain ⟨G, env, S, e, A, P⟩ := h
  subst e
  refine toE lwE A P fun p env1 S1 v G1 m1 A1 r1 P1 => ?_
  cases hi : insAt S1 p c with
  | none => simp only [hi] at P1; exact P1.elim
  | some nf =>
    obtain ⟨k, fs⟩ := nf
    simp only [hi] at P1
    obtain ⟨rfl, hs⟩ := insAt_eq hi
    by_cases hl : fs.lookup m = none
    · rw [if_pos hl] at P1
      have r1' := r1
      cases r1 with
      | ref hn =>
        rename_i a
        obtain ⟨C', dx, vs, hC', ea, rr⟩ : RepO z.K G1 (.ins c fs) (G1.H a) := A1.st.ob k a _ hn hs
        rw [hC] at hC'
        cases hC'
        refine ⟨a, dx, _, rfl, ea, (look_rep rr).2 hl, ?_⟩
        refine toA lwE A1 P1 fun ps env2 S2 us G2 m2 A2 r2 P2 => ?_
        exact runM_rd so A2 r2 (r1'.mon m2) P2
    · rw [if_neg hl] at P1
      exact P1.elim
theorem me_meth {k j : Nat} (D : Dm X.prog X.w X.K X.mg X.base k c m n den) (hr : Room j X.A) (tk : Takes X z.W) (ho : ME X z o d) (ha : MA X z (e :: es) da) (hkj : k ≤ j := by decide) (hK : z.K = X.K := by rfl) (hmg : z.mg = X.mg := by rfl)
    {pl : Sem Bool} (hst : starEach (e :: es) X.env = (false, eval e X.env) :: starEach es X.env := by rfl) (hpl : (backTo pos (starEach es X.env)).any (·.1) = false := by rfl)
    (ht : eval (.Call (.Attribute o m apos) (e :: es) [] pos) X.env = (do
      let ov ← eval o X.env
      standAt apos.atName
      let (f, first) ← holding [ov] (getMethod ov m pl)
      callWith pos f first (backTo pos (starEach (e :: es) X.env)) (backToKw pos (keywordEach [] X.env))) := by rfl) :
    ME X z (.Call (.Attribute o m apos) (e :: es) [] pos) (dMeth c m n den d da) := by
  obtain ⟨C, f, fd, ps, hC, cl, hm, F, hb⟩ := D.ex
  exact (pe_methSD (pl := pl) ho cl hm F (hr.mono hkj) hb (passAt tk) ha hst hpl ht).imp fun σ H Q h => meth_rd (by rw [hK]; exact hC) (by rw [← hK, ← hmg]; exact spok) h
theorem me_methT {k j : Nat} {T : List (Addr × Str)} (D : DmT X.prog X.w X.K X.mg X.base T k c m n den) (hT : z.G0.T = T ∧ Tabs T z.G0.H) (hr : Room j X.A) (tk : Takes X z.W) (ho : ME X z o d) (ha : MA X z (e :: es) da) (hkj : k ≤ j := by decide) (hK : z.K = X.K := by rfl) (hmg : z.mg = X.mg := by rfl)
    {pl : Sem Bool} (hst : starEach (e :: es) X.env = (false, eval e X.env) :: starEach es X.env := by rfl) (hpl : (backTo pos (starEach es X.env)).any (·.1) = false := by rfl)
    (ht : eval (.Call (.Attribute o m apos) (e :: es) [] pos) X.env = (do
      let ov ← eval o X.env
      standAt apos.atName
      let (f, first) ← holding [ov] (getMethod ov m pl)
      callWith pos f first (backTo pos (starEach (e :: es) X.env)) (backToKw pos (keywordEach [] X.env))) := by rfl) :
    ME X z (.Call (.Attribute o m apos) (e :: es) [] pos) (dMeth c m n den d da) := by
  obtain ⟨C, f, fd, ps, hC, cl, hm, F, hb⟩ := D.ex
  exact (pe_methSD (pl := pl) ho cl hm F (hr.mono hkj) hb (passAt tk) ha hst hpl ht).imp fun σ H Q h => meth_rd (by rw [hK]; exact hC) (by rw [← hK, ← hmg]; exact spokT hT) h
theorem nil_rd {σ : L2.St} {H : Hp} {Q : List V → Hp → Prop} (h : RA z dNil σ H Q) : tNil σ H Q := by
  obtain ⟨G, env, S, e, A, P⟩ := h
  subst e
  exact P [] G (Mon.refl _) A .nil
theorem me_meth0 {k j : Nat} (D : Dm X.prog X.w X.K X.mg X.base k c m n den) (hr : Room j X.A) (tk : Takes X z.W) (ho : ME X z o d) (hkj : k ≤ j := by decide) (hK : z.K = X.K := by rfl) (hmg : z.mg = X.mg := by rfl)
    {pl : Sem Bool} (ht : eval (.Call (.Attribute o m apos) [] [] pos) X.env = (do
      let ov ← eval o X.env
      standAt apos.atName
      let (f, first) ← holding [ov] (getMethod ov m pl)
      callWith pos f first (backTo pos (starEach [] X.env)) (backToKw pos (keywordEach [] X.env))) := by rfl) :
    ME X z (.Call (.Attribute o m apos) [] [] pos) (dMeth c m n den d dNil) := by
  obtain ⟨C, f, fd, ps, hC, cl, hm, F, hb⟩ := D.ex
  refine (pe_methSD0 (pl := pl) ho cl hm F (hr.mono hkj) hb (passAt tk) ht).imp fun σ H Q h => ?_
  rw [← hK, ← hmg]
  have q := meth_rd (C := C) (by rw [hK]; exact hC) (spok) h
  obtain ⟨G, env, S, e, A, P⟩ := q
  refine ⟨G, env, S, e, A, ?_⟩
  cases e2 : d env S with
  | bad => rw [e2] at P; exact P
  | raise c w e1 s1 => rw [e2] at P; exact P
  | ok p e1 s1 =>
    rw [e2] at P
    intro v G1 m1 A1 r1
    obtain ⟨a, dx, fs, h1, h2, h3, h4⟩ := P v G1 m1 A1 r1
    exact ⟨a, dx, fs, h1, h2, h3, nil_rd h4⟩
theorem me_methT0 {k j : Nat} {T : List (Addr × Str)} (D : DmT X.prog X.w X.K X.mg X.base T k c m n den) (hT : z.G0.T = T ∧ Tabs T z.G0.H) (hr : Room j X.A) (tk : Takes X z.W) (ho : ME X z o d) (hkj : k ≤ j := by decide) (hK : z.K = X.K := by rfl) (hmg : z.mg = X.mg := by rfl)
    {pl : Sem Bool} (ht : eval (.Call (.Attribute o m apos) [] [] pos) X.env = (do
      let ov ← eval o X.env
      standAt apos.atName
      let (f, first) ← holding [ov] (getMethod ov m pl)
      callWith pos f first (backTo pos (starEach [] X.env)) (backToKw pos (keywordEach [] X.env))) := by rfl) :
    ME X z (.Call (.Attribute o m apos) [] [] pos) (dMeth c m n den d dNil) := by
  obtain ⟨C, f, fd, ps, hC, cl, hm, F, hb⟩ := D.ex
  refine (pe_methSD0 (pl := pl) ho cl hm F (hr.mono hkj) hb (passAt tk) ht).imp fun σ H Q h => ?_
  rw [← hK, ← hmg]
  have q := meth_rd (C := C) (by rw [hK]; exact hC) (spokT hT) h
  obtain ⟨G, env, S, e, A, P⟩ := q
  refine ⟨G, env, S, e, A, ?_⟩
  cases e2 : d env S with
  | bad => rw [e2] at P; exact P
  | raise c w e1 s1 => rw [e2] at P; exact P
  | ok p e1 s1 =>
    rw [e2] at P
    intro v G1 m1 A1 r1
    obtain ⟨a, dx, fs, h1, h2, h3, h4⟩ := P v G1 m1 A1 r1
    exact ⟨a, dx, fs, h1, h2, h3, nil_rd h4⟩
/-! ### a new instance -/
theorem make_rd {sp : Sp} {C : Addr} (hC : PySem.W.nsIn z.K mainGlobals c = some (some (.ref C))) (so : SpOk z n den sp) {σ : L2.St} {H : Hp} {Q : VK} (h : RE z (dMake c n den da) σ H Q) : tMakeSD C sp (fun σ => WE z.W σ) (RA z da) σ H Q := by
  obtain ⟨G, env, S, e, A, P⟩ := h
  subst e
  refine toA lwE A P fun ps env1 S1 vs G1 m1 A1 r1 P1 => ?_
  intro x dx nx ndx nex
  by_cases hl : ps.length + 1 = n
  · rw [if_pos hl] at P1
    have F1 := A1.fresh (o := .own x) ndx
    have M1 := (Ext.fresh (o := .own x) ndx).mon A1.sure
    have nx2 : (G1.fresh dx (.own x)).H x = none := by
      show upd G1.H dx (.own x) x = none
      rw [upd_ne (fun q => nex q.symm)]
      exact nx
    have F2 := F1.fresh (o := .ins C dx []) nx2
    have M2 := (Ext.fresh (o := .ins C dx []) nx2).mon F1.sure
    obtain ⟨M3, A3⟩ := At.shareO (z := z) (so := .ins c []) (a := x) F2 ⟨C, dx, [], hC, upd_same, .nil⟩ (fun h => by
      obtain ⟨o, q, _⟩ := A1.sure x h
      rw [nx] at q
      cases q) (fun h => by
      obtain ⟨u, q⟩ := A1.st.there h
      rw [nx] at q
      cases q) (A1.ent.there x (.inl nx)) (fun i ho q => by
      obtain ⟨xs, ho⟩ := ho
      obtain ⟨b, ws, q1, q2, _⟩ := A1.en.own i xs ho
      rw [q] at q1
      cases q1
      rw [nx] at q2
      cases q2)
    have MM := (M1.trans M2).trans M3
    have hn : (G1.m ++ [x])[S1.length]? = some x := by
      rw [← A1.st.len]
      simp
    refine so (qs := .ref S1.length :: ps) A3 (.cons (.ref hn) (r1.mon MM)) (by rw [List.length_cons, ← r1.length]; exact hl) ?_
    cases e : den (.ref S1.length :: ps) (S1 ++ [.ins c []]) with
    | bad => simp only [e] at P1; exact P1.elim
    | ok w S2 =>
      cases w with
      | non =>
        simp only [e] at P1
        exact fun v G' en m s su r => by
          cases r
          exact ⟨rfl, P1 (.ref x) G' (MM.trans m) (A3.call en m s su) (.ref (m.at hn))⟩
      | _ => simp only [e] at P1; exact P1.elim
    | raise c w S2 =>
      simp only [e] at P1
      exact fun cls d v G' en m s su h1 h0 h2 r => P1 σ G' cls d v (MM.trans m) (A3.call en m s su) h1 (A3.ent.there d h0) h2 r
  · rw [if_neg hl] at P1
    exact P1.elim
theorem me_make {k j : Nat} (D : Dk X.prog X.w X.K X.mg X.base k c n den) (hr : Room j X.A) (tk : Takes X z.W) (ha : MA X z (e :: es) da) (hkj : k + 1 ≤ j := by decide) (hK : z.K = X.K := by rfl) (hmg : z.mg = X.mg := by rfl) (hg : Gl X c := by rfl)
    (hdb : (c == ("__debug__" : Str)) = false := by decide) (he : starEach (e :: es) X.env = (false, eval e X.env) :: starEach es X.env := by rfl) (hpl : (backTo pos (starEach es X.env)).any (·.1) = false := by rfl) :
    ME X z (.Call (.Name c p) (e :: es) [] pos) (dMake c n den da) := by
  obtain ⟨C, f, fd, ps, hC, hc, M, F, hb⟩ := D.ex
  exact (pe_makeSD M F (hr.mono hkj) hg hc hb (passAt tk) ha hdb he hpl).imp fun σ H Q h => make_rd (by rw [hK]; exact hC) (by rw [← hK, ← hmg]; exact spok) h
end
/-! ### one of two ways, by the frame and the store -/
open Classical in
noncomputable def dAlt (c : Env → Stt → Prop) {α : Type} (d1 d2 : Cd α) : Cd α := fun e s => if c e s then d1 e s else d2 e s
section
variable {X : Cx} {z : Zx} {e : Expr} {d1 d2 : Cd PV} {l1 l2 : Cd (List PV)} {c : Env → Stt → Prop}
theorem mf_alt (h1 : MF X z e l1) (h2 : MF X z e l2) : MF X z e (dAlt c l1 l2) := ⟨fun pins s σ H Q I ⟨G, env, S, q, A, P⟩ => by
  unfold dAlt at P
  by_cases hc : c env S
  · rw [if_pos hc] at P
    exact h1.run pins s σ H Q I ⟨G, env, S, q, A, P⟩
  · rw [if_neg hc] at P
    exact h2.run pins s σ H Q I ⟨G, env, S, q, A, P⟩⟩
end
/-! ### rules -/
section
variable {e : Env} {s : Stt} {R : Pr} {Q : Pq PV} {QS : Pq Flw} {c f m : Str} {n : Nat} {den : List PV → Stt → Res} {d dv : Cd PV} {da : Cd (List PV)}
theorem wp_fld (h : Wp (d e s) (fun p e s => ∃ k fs w, p = .ref k ∧ s[k]? = some (.ins c fs) ∧ fs.lookup f = some w ∧ Q w e s) R) : Wp (dFld c f d e s) Q R :=
  wp_bnd (Wp.mono h (fun p e1 s1 ⟨k, fs, w, q1, q2, q3, q4⟩ => by
    subst q1
    simp only [insAt_of q2, q3]
    exact q4) fun _ _ _ _ h => h)
theorem wp_setF (h : Wp (dv e s) (fun w e s => Wp (d e s) (fun p e s => ∃ k fs, p = .ref k ∧ s[k]? = some (.ins c fs) ∧ fs.length < 1000 ∧ QS .next e (s.set k (.ins c (putP' f w fs)))) R) R) : Wp (dSetF c f d dv e s) QS R :=
  wp_bnd (Wp.mono h (fun w e0 s0 h0 => wp_bnd (Wp.mono h0 (fun p e1 s1 ⟨k, fs, q1, q2, q3, q4⟩ => by
    subst q1
    simp only [insAt_of q2, if_pos q3]
    exact q4) fun _ _ _ _ h => h)) fun _ _ _ _ h => h)
theorem wp_alt {cd : Env → Stt → Prop} {α : Type} {d1 d2 : Cd α} {Q : Pq α} (hp : cd e s → Wp (d1 e s) Q R) (hn : ¬ cd e s → Wp (d2 e s) Q R) : Wp (dAlt cd d1 d2 e s) Q R := by
  unfold dAlt
  by_cases h : cd e s
  · rw [if_pos h]; exact hp h
  · rw [if_neg h]; exact hn h
end
end FS
namespace FS
/-- the name holds a shared list -/
def isRf (i : Nat) : Env → Stt → Prop := fun e _ => ∃ n, e[i]? = some (.val (.ref n))
end FS
set_option Elab.async false
set_option linter.all false
set_option maxRecDepth 100000
set_option maxHeartbeats 2000000
/-! FsSrtI: sorted(xs), xs a list of ints, any number. -/
namespace FS
open PySem PySem.Spec PyProof.Rows L2
abbrev leI : Int → Int → Bool := fun x y => decide (x ≤ y)
section
variable {X : Cx} {z : Zx} {pos p : Pos}
def rSortedInts (K : PySem.W.Frag) : List V → Hp → VK → Prop := fun vs H Q => ∃ (a : Addr) (ns : List Int), vs = [V.ref a] ∧ SqL K H a (ns.map V.int) ∧ ∀ p, H p = none → Q (.ref p) (upd H p (.lst ((ns.mergeSort leI).map V.int)))
theorem vals_eachI : ∀ {L : List Int} {us : List Value}, PySem.W.EachIs (fun (u : Value) (b : Int) => RelV (.int b) u) us L → Vals (L.map V.int) us
  | _, _, .nil => .nil
  | _, _, .cons r t => .cons r (vals_eachI t)
theorem cr_sortedInts (hu : X.A.units + 64 < cLine) : CallR X (.builtin "sorted") (rSortedInts X.K) := by
  intro pins s σ H vs us Q I r h
  obtain ⟨a, ns, rfl, hs, q⟩ := h
  rw [Vals.ref1 r]
  obtain ⟨its, rv, pl, hz⟩ := I.list hs
  have hl : its.length = ns.length := by rw [← rv.length, List.length_map]
  rw [List.length_map] at hz
  have gg : ∀ (i : Nat) (u : Value) (b : Int), its[i]? = some u → ns[i]? = some b → RelV (.int b) u := fun i u b h1 h2 => vals_get rv i (.int b) u (by rw [List.getElem?_map, h2]; rfl) h1
  have each : PySem.W.EachIs (fun (u : Value) (b : Int) => RelV (.int b) u) its ns := each_of (R := fun b u => RelV (.int b) u) (fun _ _ h => h) hl gg
  have reads : PySem.W.EachIs (fun (u : Value) (b : Int) => ∃ as, Reads s.heap u (.int b) as) its ns := each_of (R := fun b u => ∃ as, Reads s.heap u (.int b) as) (fun _ _ h => h) hl fun i u b h1 h2 =>
    Dp.reads I (.int b) (.int b) u (.int b) (gg i u b h1 h2)
  refine PySem.W.sorted_data (enc := fun b : Int => .int b) (R := fun (u : Value) (b : Int) => RelV (.int b) u) pl.isList each reads (fun d hd d' hd' => ?_) ?_ hz (fun b hb => ?_) fun out ho eo => ?_
  · obtain ⟨b, _, rfl⟩ := List.mem_map.mp hd
    obtain ⟨b', _, rfl⟩ := List.mem_map.mp hd'
    simp [PySem.W.alike]
  · refine .inr fun d hd => ?_
    obtain ⟨b, _, rfl⟩ := List.mem_map.mp hd
    exact ⟨fun h => (by cases h), fun xs h => (by cases h)⟩
  · have : (PyData.int b).depth ≤ 2 := by simp [PyData.depth]
    omega
  · have hle : (PySem.W.dataLe false fun b : Int => .int b) = leI := PySem.W.dataLe_int (fun b : Int => b)
    rw [hle] at eo
    obtain ⟨c, hc⟩ := PyProof.Rows.sortedAll_at s.heap its (List.toArray out)
    have vo := vals_eachI eo
    have hlen : ((ns.mergeSort leI).map V.int).length ≤ sizeLine := by rw [List.length_map, List.length_mergeSort]; exact hz
    have hn : H (s.heap.objs.size + 1) = none := I.hok.fresh (Nat.le_succ _)
    exact ⟨.ref _, upd H (s.heap.objs.size + 1) (.lst ((ns.mergeSort leI).map V.int)), I.laid (t' := s.toks) (fun b o e => PyProof.Rows.sortedAll_old e) (Nat.le_succ _) ⟨hlen, out, c, vo, hc⟩, rfl, q _ hn⟩
/-- sorted(xs): a new list -/
def dSrtI (d : Cd PV) : Cd (List PV) := bnd d fun p => fun e s => match res s p with
  | .lst xs => match intsOf xs with
    | some ns => .ok ((ns.mergeSort leI).map PV.int) e s
    | none => .bad
  | _ => .bad
theorem mf_srtI {a : Expr} {d : Cd PV} {k : Nat} (hr : Room k X.A) (hm : X.mg "sorted" = none) (ha : ME X z a d) (hK : z.K = X.K := by rfl) (hg : Gl X "sorted" := by rfl)
    (he : starEach [a] X.env = (false, eval a X.env) :: starEach [] X.env := by rfl) : MF X z (.Call (.Name "sorted" p) [a] [] pos) (dSrtI d) := by
  refine (pe_callB (p := p) (pos := pos) (x := "sorted") (cr_sortedInts hr.units) hg hm (by decide +kernel) (pa_cons ha pa_nil he) (by decide) (by decide) he rfl).imp fun σ H Q ⟨G, env, S, e, A, P⟩ => ?_
  subst e
  refine toE lwF A P fun pv env1 S1 v G1 m1 A1 r1 P1 => ?_
  show rSortedInts X.K [v] G1.H Q
  have go : ∀ (c : Addr) (vs : List V) (xs : List PV), v = .ref c → G1.H c = some (.lst vs) → RepL z.K G1 xs vs → PostF z G1 σ Q (match intsOf xs with
    | some ns => .ok ((ns.mergeSort leI).map PV.int) env1 S1
    | none => .bad) → rSortedInts X.K [v] G1.H Q := fun c vs xs e0 hsq rr P1 => by
    subst e0
    cases e2 : intsOf xs with
    | none => simp only [e2] at P1; exact P1.elim
    | some ns =>
      simp only [e2] at P1
      have e4 := intsOf_rep e2 rr
      rw [e4] at hsq
      refine ⟨c, ns, rfl, SqL.of hsq, fun q hq => ?_⟩
      have A3 : At z.K z.G0 (G1.fresh q (.lst ((ns.mergeSort leI).map V.int))) S1 env1 σ := A1.fresh hq
      have al := A1.alone (vs := (ns.mergeSort leI).map V.int) hq
      have M := (Ext.fresh (o := .lst ((ns.mergeSort leI).map V.int)) hq).mon A1.sure
      exact P1 q _ _ M A3 (RepL.ints _) al.at_ al.nf al.nm al.n0 al.no
  cases pv with
  | lst xs =>
    obtain ⟨c, vs, rfl, hsq, rr⟩ := r1.sqL
    exact go c vs xs rfl hsq rr P1
  | ref n =>
    cases q : S1[n]? with
    | none => simp only [res, q] at P1; exact P1.elim
    | some so =>
      cases so with
      | lst xs =>
        simp only [res, q] at P1
        obtain ⟨c, vs, rfl, _, e2, rr⟩ := r1.sqR A1.st q
        exact go c vs xs rfl e2 rr P1
      | dct lk kvs => simp only [res, q] at P1; exact P1.elim
      | ins c fs => simp only [res, q] at P1; exact P1.elim
  | _ => exact P1.elim
end
section
variable {e : Env} {s : Stt} {R : Pr}
theorem wp_srtI {d : Cd PV} {Q : Pq (List PV)} (h : Wp (d e s) (fun p e s => ∃ xs ns, res s p = .lst xs ∧ intsOf xs = some ns ∧ Q ((ns.mergeSort leI).map PV.int) e s) R) : Wp (dSrtI d e s) Q R :=
  wp_bnd (Wp.mono h (fun p e1 s1 ⟨xs, ns, h1, h2, h3⟩ => by
    simp only [h1, h2]
    exact h3) fun _ _ _ _ h => h)
end
end FS
set_option Elab.async false
set_option linter.all false
set_option maxRecDepth 100000
set_option maxHeartbeats 2000000
/-! FsMetR: sorted({b for tape in xs for b in tape}), xs a shared list. -/
namespace FS
open PySem PySem.Spec PyProof.Rows L2
def dMetR (a b : Nat) (d : Cd PV) : Cd (List PV) := bnd d fun p => fun e s => match p with
  | .ref n => match s[n]? with
    | some (.lst rs) => match rowsI rs with
      | some nss => if (srtI nss.flatten).length < 64 ∧ a < e.length ∧ b < e.length ∧ a ≠ b then .ok ((srtI nss.flatten).map PV.int) e s else .bad
      | none => .bad
    | _ => .bad
  | _ => .bad
section
variable {X : Cx} {z : Zx} {i0 : Expr} {x0 x1 : Str} {scope : Scope} {pos cpos p1 q1 q2 q3 q4 : Pos} {a b : Nat} {d : Cd PV}
theorem mf_metR (a b : Nat) (own : List (Str × Nat)) (hm : X.mg "sorted" = none) (hN : X.N.Nodup) (he : ME X z i0 d) {N : List Str} {sc : Scope} (ok : blkC N sc scope own = true)
    (hb : ∀ (s : Shared) (H : Hp) (C : Addr) (cl : List (Str × Addr)) (fp : List Addr), PG (X.blk s H scope (compEnvC scope cl C X.env) fp) (.Name x0 q2) (gName a) ∧ PE (X.blk s H scope (compEnvC scope cl C X.env) fp) (.Name x0 q4) (tVar a) ∧
      PG (X.blk s H scope (compEnvC scope cl C X.env) fp) (.Name x1 q3) (gName b) ∧ PE (X.blk s H scope (compEnvC scope cl C X.env) fp) (.Name x1 q1) (tVar b))
    (hc : X.calm = true := by rfl) (hK : z.K = X.K := by rfl) (hXN : X.N = N := by rfl) (hsc : X.env.scope = sc := by rfl) (hg : Gl X "sorted" := by rfl) (hs : ∀ v, foldedSetIterable i0 X.env v = pure v := by intro _; rfl)
    (hst : starEach [SE2 (.Name x1 q1) (.Name x0 q2) i0 (.Name x1 q3) (.Name x0 q4) scope cpos] X.env = (false, eval (SE2 (.Name x1 q1) (.Name x0 q2) i0 (.Name x1 q3) (.Name x0 q4) scope cpos) X.env) :: starEach [] X.env := by rfl) :
    MF X z (.Call (.Name "sorted" p1) [SE2 (.Name x1 q1) (.Name x0 q2) i0 (.Name x1 q3) (.Name x0 q4) scope cpos] [] pos) (dMetR a b d) := by
  refine PE.imp (pe_met (g := gName a) (wi1 := iTup X.K (tVar a)) (g1 := gName b) (te := tVar b) hc hm hN (PI.or (pi_list he) (pi_tup he)) (blkOk_by (by rw [hXN, hsc]; exact ok)) (fun s H C cl fp => ⟨(hb s H C cl fp).1, pi_tup (hb s H C cl fp).2.1, (hb s H C cl fp).2.2.1, (hb s H C cl fp).2.2.2⟩) hg hs (fun _ _ => rfl) hst) fun σ H Q ⟨G, env, S, e, A, P⟩ => ?_
  subst e
  unfold dMetR bnd at P
  cases e : d env S with
  | bad => rw [e] at P; exact P.elim
  | raise c w e1 s1 =>
    rw [e] at P
    exact .inl ⟨G, env, S, rfl, A, by rw [e]; exact P⟩
  | ok p env1 S1 =>
    rw [e] at P
    cases p with
    | ref n =>
      cases e1 : S1[n]? with
      | none => simp only [Out.bind, e1] at P; exact P.elim
      | some so =>
        cases so with
        | dct lk kvs => simp only [Out.bind, e1] at P; exact P.elim
        | ins c fs => simp only [Out.bind, e1] at P; exact P.elim
        | lst rs =>
          have P1 : PostF z G σ Q (match rowsI rs with
            | some nss => if (srtI nss.flatten).length < 64 ∧ a < env1.length ∧ b < env1.length ∧ a ≠ b then .ok ((srtI nss.flatten).map PV.int) env1 S1 else .bad
            | none => .bad) := by
            simp only [Out.bind, e1] at P
            exact P
          cases e2 : rowsI rs with
          | none => rw [e2] at P1; exact P1.elim
          | some nss =>
            rw [e2] at P1
            by_cases hcnd : (srtI nss.flatten).length < 64 ∧ a < env1.length ∧ b < env1.length ∧ a ≠ b
            · have P2 : PostF z G σ Q (.ok ((srtI nss.flatten).map PV.int) env1 S1) := by
                simpa only [if_pos hcnd] using P1
              obtain ⟨h64, ha, hb', hab⟩ := hcnd
              obtain ⟨hl1, hget⟩ := rowsI_get e2
              -- what follows, from the walked thing's own data
              have go : ∀ (J : It) (G1 : Wd) (vs : List V), Mon G G1 → At z.K z.G0 G1 S1 env1 σ → RepL z.K G1 rs vs → (∀ D o i x, G1.H D = none → vs[i]? = some x → J.go i (upd G1.H D o) ∧ ∀ y H', J.yld i (upd G1.H D o) y H' → H' = upd G1.H D o ∧ y = x) →
                  (∀ D o i, G1.H D = none → vs.length ≤ i → J.stop i (upd G1.H D o)) → ∀ D, G1.H D = none → ∃ (W : Nat → Nat → L2.St → Hp → Prop) (m : Nat), W 0 m (wipe σ (own.map (·.2))) (upd G1.H D (SetO X.w D (fun _ => false) 0)) ∧
                    OutS X.w D (gName a) (iTup X.K (tVar a)) (gName b) (tVar b) (fun H => ∃ (S : Int → Bool) (n : Nat), H D = some (SetO X.w D S n) ∧ n < 64 ∧ ∀ (ns : List Int) (p : Addr), ns.Pairwise (· < ·) → (∀ k : Int, k ∈ ns ↔ S k = true) → ns.length = n → H p = none → Q (.ref p) (upd H p (.lst (ns.map V.int)))) J W := by
                intro J G1 vs m1 A1 rr hgo hstop D hD
                refine met_loops (L := env1.length) (nss := nss) hD hab ha hb' (by rw [← rr.length]; exact hl1) h64 (fun i v ns hv hns => ?_) (fun o i x hx => hgo D o i x hD hx) (fun o i h => hstop D o i hD h) (fun S n hgd => ⟨S, n, upd_same, by rw [hgd.2]; exact h64, fun ns p h1 h2 h3 hp => ?_⟩) (by rw [wipe_length]; exact A1.en.len.symm)
                · obtain ⟨q, hq1, hq2⟩ := rr.getV hv
                  obtain ⟨xs, ms, rfl, h2, h3⟩ := hget i q hq1
                  rw [hns] at h3
                  cases h3
                  obtain ⟨r, vs', rfl, hsq, hrl⟩ := hq2.sqT
                  have e9 := intsOf_rep h2 hrl
                  subst e9
                  exact ⟨r, rfl, by rw [← hK]; exact hsq⟩
                · have e9 : ns = srtI nss.flatten := ris_uniq h1 (srtI_all _).1 fun k => by rw [h2 k, hgd.1 k, (srtI_all _).2 k]
                  subst e9
                  have A2 : At z.K z.G0 (G1.fresh D (SetO X.w D S n)) S1 env1 σ := A1.fresh hD
                  have A3 : At z.K z.G0 ((G1.fresh D (SetO X.w D S n)).fresh p (.lst ((srtI nss.flatten).map V.int))) S1 env1 σ := A2.fresh hp
                  have al := A2.alone (vs := (srtI nss.flatten).map V.int) hp
                  exact P2 p _ _ (m1.trans (((Ext.fresh hD).mon A1.sure).trans ((Ext.fresh hp).mon A2.sure))) A3 (RepL.ints _) al.at_ al.nf al.nm al.n0 al.no
              refine .inl ⟨G, env, S, rfl, A, ?_⟩
              rw [e]
              intro v G1 m1 A1 r1
              obtain ⟨c, vs, rfl, _, hsq, rr⟩ := r1.sqR A1.st e1
              have hsq := SqL.of (K := X.K) hsq
              exact ⟨c, rfl, ⟨vs, hsq⟩, go _ G1 vs m1 A1 rr (fun D o i x hD hx => itl_go hD hsq o i x hx) fun D o i hD hi => ⟨vs, sqL_upd hD hsq, hi⟩⟩
            · simp only [if_neg hcnd] at P1
              exact P1.elim
    | _ => exact P.elim
end
section
variable {e : Env} {s : Stt} {R : Pr}
theorem wp_metR {a b : Nat} {d : Cd PV} {Q : Pq (List PV)} (h : Wp (d e s) (fun p e s => ∃ n rs nss, p = .ref n ∧ s[n]? = some (.lst rs) ∧ rowsI rs = some nss ∧ ((srtI nss.flatten).length < 64 ∧ a < e.length ∧ b < e.length ∧ a ≠ b) ∧ Q ((srtI nss.flatten).map PV.int) e s) R) : Wp (dMetR a b d e s) Q R :=
  wp_bnd (Wp.mono h (fun p e1 s1 ⟨n, rs, nss, h1, h2, h3, h4, h5⟩ => by
    subst h1
    simp only [h2, h3, if_pos h4]
    exact h5) fun _ _ _ _ h => h)
end
end FS
set_option Elab.async false
set_option linter.all false
set_option maxRecDepth 100000
set_option maxHeartbeats 4000000
/-! FsExtT: xs.extend(t), t a tuple. -/
namespace PySem.AutoSeq1
open PySem PySem.Spec
theorem ext_tup (l : Addr) (items : Array Value) (n : Nat) (b : Addr) (items2 : Array Value) (n2 : Nat) (dd : Option Addr) (sl : Array (Option Value)) (hs0 : ¬(!items.isEmpty && Builtin.List.listTooLong (items.size + items2.size)) = true) (hs1 : items.size ≤ sizeLine) (hs2 : items.size + items2.size ≤ sizeLine + 1) :
    Meets (Builtin.«list.extend» ⟨[.ref l, .ref b], []⟩) (fun _ R s => s.heap.get? l = some { cls := .type "list", data := .seq items n } ∧ s.heap.get? b = some { cls := .type "tuple", dict := dd, data := .seq items2 n2, slots := sl } ∧
      R (.ok (.ret Value.none)) { s with heap := s.heap.update l (Obj.mapSeq fun x => x ++ items2), toks := s.toks }) :=
  .of_wp fun prog w A R s h => by
    obtain ⟨hp, g, d, tk, os⟩ := s
    obtain ⟨hl, hb, h⟩ := h
    have f1 := idx_int
    have f2 := sub_tuple_tuple
    have f3 := sub_list_list
    have f4 := sub_tuple_list
    have f5 := sub_list_tuple
    have hz' : (items ++ items2).size ≤ sizeLine + 1 := by rw [Array.size_append]; exact hs2
    wp_walk using (wpAny_updateSeq hl rfl (hz := hs1) (_hz' := hz')), wpAny_loadPart' hl, wpAny_loadPart' hb
    exact ⟨_, rfl, h⟩
end PySem.AutoSeq1
namespace FS
open PySem PySem.Spec PyProof.Rows L2
def rExtT (K : PySem.W.Frag) : V → List V → Hp → VK → Prop := fun x vs H Q => ∃ l b xs zs, x = .ref l ∧ vs = [.ref b] ∧ H l = some (.lst xs) ∧ SqT K H b zs ∧ xs.length + zs.length ≤ sizeLine ∧ Q .non (upd H l (.lst (xs ++ zs)))
section
variable {X : Cx}
theorem mt_extT : MtM X "list.extend" (rExtT X.K) := by
  intro pins s σ H x vs v us Q I rx rv h
  obtain ⟨l, b, xs, zs, rfl, rfl, hH, hB, hz, q⟩ := h
  cases rx
  obtain ⟨u, rfl, ru⟩ := rv.one
  cases ru
  obtain ⟨z, its, n, r, hl, e⟩ := I.lstM hH
  obtain ⟨its2, r2, ⟨ob, e2, hcls, n2, hdat⟩, z2⟩ := I.tuple hB
  have hl2 := r2.length
  obtain ⟨cls, dd, dat, sl⟩ := ob
  simp only at hcls hdat
  subst hcls hdat
  have hsz : its.toArray.size + its2.toArray.size ≤ sizeLine := by rw [List.size_toArray, List.size_toArray]; omega
  have hlong : ¬ (!its.toArray.isEmpty && Builtin.List.listTooLong (its.toArray.size + its2.toArray.size)) = true := by
    rw [notLongL hsz, Bool.and_false]
    exact Bool.false_ne_true
  refine call_meets F.slot_list_extend ⟨_, e, rfl⟩ F.entry_list_extend (F.args_list_extend_2 _ _)
    (AutoSeq1.ext_tup l its.toArray n b its2.toArray n2 dd sl hlong (by rw [List.size_toArray]; omega) (by omega)) ⟨e, e2, ?_⟩
  refine ⟨.non, _, I.lset (its' := its ++ its2) hH e (by simp) (r.append r2) ?_, rfl, q⟩
  rw [List.length_append]
  omega
def mExtT : List PV → List PV → Option (PV × List PV) := fun xs ps => match ps with
  | [.tup ys] => if xs.length + ys.length ≤ sizeLine then some (.non, xs ++ ys) else none
  | _ => none
theorem m_extT {K : PySem.W.Frag} (hK : K = X.K := by rfl) : MthK X K "list.extend" mExtT := by
  refine ⟨_, mt_extT, fun G a vs xs ps ws w xs' Q h ha r rp k => ?_⟩
  match ps, h with
  | [.tup ys], h =>
    obtain ⟨v, rfl, r1⟩ := repL1 rp
    obtain ⟨b, us, rfl, q, r2⟩ := r1.sqT
    simp only [mExtT] at h
    split at h
    · rename_i hl
      cases h
      exact ⟨a, b, vs, us, rfl, rfl, ha, by rw [← hK]; exact q, by rw [← r.length, ← r2.length]; exact hl, k _ _ .non (r.append r2)⟩
    · cases h
variable {z : Zx} {p apos cpos : Pos} {o e : Expr} {es : List Expr} {da : Cd (List PV)} {d : Cd PV} {name : Str} {id : String} {mf : List PV → List PV → Option (PV × List PV)}
theorem me_mthRK {slot : PySem.Slot "list" name id} (M : MthK X z.K id mf) (hty : typeOf (.builtin id) = pure (.type "method_descriptor")) (ho : ME X z o d) (ha : MA X z (e :: es) da)
    (hbase : attributeBase o name X.env (eval o X.env) = eval o X.env := by rfl)
    (hfew : ((backTo cpos (starEach (e :: es) X.env)).all (fun x => !x.1) && (backToKw cpos (keywordEach [] X.env)).all (fun x => x.1.isSome)
      && decide ((e :: es).length + ([] : List Keyword).length + (if ([] : List Keyword).isEmpty then 0 else 1) < 30)) = true := by rfl)
    (hline : (apos.endLine == cpos.line) = true := by rfl) (hs : starEach (e :: es) X.env = (false, eval e X.env) :: starEach es X.env := by rfl) (hplain : (backTo cpos (starEach es X.env)).any (·.1) = false := by rfl) :
    ME X z (.Call (.Attribute o name apos) (e :: es) [] cpos) (dMthR mf d da) := by
  obtain ⟨r, hm, k⟩ := M
  refine (pe_bm PySem.F.plainAttrs_list slot hty hm ho ha hbase hfew hline hs hplain).imp fun σ H Q ⟨G, env, S, e, A, P⟩ => ?_
  subst e
  refine toE lwE A P fun p env1 S1 v G1 m1 A1 r1 P1 => ?_
  cases p with
  | ref n =>
    cases q : S1[n]? with
    | none => simp only [q] at P1; exact P1.elim
    | some so =>
      cases so with
      | lst xs =>
        simp only [q] at P1
        obtain ⟨a, vs, rfl, hmn, e2, _⟩ := r1.sqR A1.st q
        refine ⟨.inl ⟨rfl, vs, SqL.of e2⟩, ?_⟩
        refine toA lwE A1 P1 fun ps env2 S2 ws G2 m2 A2 r2 P2 => ?_
        cases q2 : S2[n]? with
        | none => simp only [q2] at P2; exact P2.elim
        | some so =>
          cases so with
          | lst ys =>
            simp only [q2] at P2
            cases e : mf ys ps with
            | none => simp only [e] at P2; exact P2.elim
            | some wx =>
              obtain ⟨w, xs'⟩ := wx
              simp only [e] at P2
              obtain ⟨b, us, eb, hm2, f2, f3⟩ := (r1.mon m2).sqR A2.st q2
              cases eb
              refine k G2 a us ys ps ws w xs' Q e f2 f3 r2 fun v vs' rv rx => ?_
              obtain ⟨M, A3⟩ := A2.poke hm2 q2 rx
              exact P2 v _ M A3 (rv.mon M)
          | dct lk kvs => simp only [q2] at P2; exact P2.elim
          | ins c fs => simp only [q2] at P2; exact P2.elim
      | dct lk kvs => simp only [q] at P1; exact P1.elim
      | ins c fs => simp only [q] at P1; exact P1.elim
  | _ => exact P1.elim
end
end FS
set_option Elab.async false
set_option linter.all false
set_option maxRecDepth 100000
/-! FsWpD: the rules of FsCls, FsSrtI, for walks. -/
namespace FS
open PySem L2
section
variable {e : Env} {s : Stt} {R : Pr} {Q : Pq PV} {c m : Str} {n : Nat} {den : List PV → Stt → Res} {d : Cd PV} {da : Cd (List PV)}
theorem wp_meth (h : Wp (d e s) (fun p e s => ∃ k fs, p = .ref k ∧ s[k]? = some (.ins c fs) ∧ fs.lookup m = none ∧ Wp (da e s) (fun ps e s => ps.length + 1 = n ∧ Fn (den (.ref k :: ps) s) (fun p s => Q p e s) (fun c w s => R c w e s)) R) R) : Wp (dMeth c m n den d da e s) Q R :=
  wp_bnd (Wp.mono h (fun p e1 s1 ⟨k, fs, q1, q2, q3, q4⟩ => by
    subst q1
    simp only [insAt_of q2, if_pos q3]
    refine wp_bnd (Wp.mono q4 (fun ps e2 s2 ⟨h1, h2⟩ => ?_) fun _ _ _ _ h => h)
    unfold runM
    rw [if_pos h1]
    show Wp (match den (.ref k :: ps) s2 with | .ok p s' => Out.ok p e2 s' | .raise c w s' => .raise c w e2 s' | .bad => .bad) Q R
    cases q : den (.ref k :: ps) s2 with
    | ok p s2 => rw [q] at h2; exact h2
    | raise c w s2 => rw [q] at h2; exact h2
    | bad => rw [q] at h2; exact h2) fun _ _ _ _ h => h)
theorem wp_make (h : Wp (da e s) (fun ps e s => ps.length + 1 = n ∧ Fn (den (.ref s.length :: ps) (s ++ [.ins c []])) (fun p s' => p = .non ∧ Q (.ref s.length) e s') (fun c w s => R c w e s)) R) : Wp (dMake c n den da e s) Q R :=
  wp_bnd (Wp.mono h (fun ps e1 s1 ⟨h1, h2⟩ => by
    rw [if_pos h1]
    show Wp (match den (.ref s1.length :: ps) (s1 ++ [.ins c []]) with | .ok .non s' => Out.ok (.ref s1.length) e1 s' | .ok _ _ => .bad | .raise c w s' => .raise c w e1 s' | .bad => .bad) Q R
    cases q : den (.ref s1.length :: ps) (s1 ++ [.ins c []]) with
    | ok p s2 =>
      rw [q] at h2
      obtain ⟨h2, h3⟩ := h2
      subst h2
      exact h3
    | raise c w s2 => rw [q] at h2; exact h2
    | bad => rw [q] at h2; exact h2) fun _ _ _ _ h => h)
end
namespace I
section
variable {e : Env} {s : Stt} {R : Pr} {Q : Pq PV} {QS : Pq Flw} {c f m : Str} {n : Nat} {den : List PV → Stt → Res} {d dv : Cd PV} {da : Cd (List PV)}
theorem wp_srtI {Q : Pq (List PV)} (h : Wp (d e s) (fun p e s => ∃ xs ns, res s p = .lst xs ∧ intsOf xs = some ns ∧ Q ((ns.mergeSort leI).map PV.int) e s) R) : Wp (dSrtI d e s) Q R := by
  simp only [Wp_eq] at *
  exact FS.wp_srtI h
theorem wp_metR {a b : Nat} {Q : Pq (List PV)} (h : Wp (d e s) (fun p e s => ∃ n rs nss, p = .ref n ∧ s[n]? = some (.lst rs) ∧ rowsI rs = some nss ∧ ((srtI nss.flatten).length < 64 ∧ a < e.length ∧ b < e.length ∧ a ≠ b) ∧ Q ((srtI nss.flatten).map PV.int) e s) R) : Wp (dMetR a b d e s) Q R := by
  simp only [Wp_eq] at *
  exact FS.wp_metR h
theorem wp_fld (h : Wp (d e s) (fun p e s => ∃ k fs w, p = .ref k ∧ s[k]? = some (.ins c fs) ∧ fs.lookup f = some w ∧ Q w e s) R) : Wp (dFld c f d e s) Q R := by
  simp only [Wp_eq] at *
  exact FS.wp_fld h
theorem wp_setF (h : Wp (dv e s) (fun w e s => Wp (d e s) (fun p e s => ∃ k fs, p = .ref k ∧ s[k]? = some (.ins c fs) ∧ fs.length < 1000 ∧ QS .next e (s.set k (.ins c (putP' f w fs)))) R) R) : Wp (dSetF c f d dv e s) QS R := by
  simp only [Wp_eq] at *
  exact FS.wp_setF h
theorem wp_meth (h : Wp (d e s) (fun p e s => ∃ k fs, p = .ref k ∧ s[k]? = some (.ins c fs) ∧ fs.lookup m = none ∧ Wp (da e s) (fun ps e s => ps.length + 1 = n ∧ Fn (den (.ref k :: ps) s) (fun p s => Q p e s) (fun c w s => R c w e s)) R) R) : Wp (dMeth c m n den d da e s) Q R := by
  simp only [Wp_eq] at *
  exact FS.wp_meth h
theorem wp_make (h : Wp (da e s) (fun ps e s => ps.length + 1 = n ∧ Fn (den (.ref s.length :: ps) (s ++ [.ins c []])) (fun p s' => p = .non ∧ Q (.ref s.length) e s') (fun c w s => R c w e s)) R) : Wp (dMake c n den da e s) Q R := by
  simp only [Wp_eq] at *
  exact FS.wp_make h
theorem wp_altR {i : Nat} {α : Type} {d1 d2 : Cd α} {Q : Pq α} {k : Nat} (h : e[i]? = some (.val (.ref k))) (hp : Wp (d1 e s) Q R) : Wp (dAlt (isRf i) d1 d2 e s) Q R := by
  simp only [Wp_eq] at *
  exact FS.wp_alt (fun _ => hp) (fun q => absurd ⟨k, h⟩ q)
theorem wp_altN {i : Nat} {α : Type} {d1 d2 : Cd α} {Q : Pq α} {p : PV} (h : e[i]? = some (.val p)) (hn : ∀ k, p ≠ .ref k) (hp : Wp (d2 e s) Q R) : Wp (dAlt (isRf i) d1 d2 e s) Q R := by
  simp only [Wp_eq] at *
  refine FS.wp_alt (fun q => ?_) (fun _ => hp)
  obtain ⟨k, q⟩ := q
  rw [h] at q
  cases q
  exact absurd rfl (hn k)
instance st_wp_fld : Stp (Wp (dFld c f d e s) Q R) (Wp (d e s) (fun p e s => ∃ k fs w, p = .ref k ∧ s[k]? = some (.ins c fs) ∧ fs.lookup f = some w ∧ Q w e s) R) := ⟨fun h => wp_fld h⟩
instance st_wp_setF : Stp (Wp (dSetF c f d dv e s) QS R) (Wp (dv e s) (fun w e s => Wp (d e s) (fun p e s => ∃ k fs, p = .ref k ∧ s[k]? = some (.ins c fs) ∧ fs.length < 1000 ∧ QS .next e (s.set k (.ins c (putP' f w fs)))) R) R) := ⟨fun h => wp_setF h⟩
instance st_wp_meth : Stp (Wp (dMeth c m n den d da e s) Q R) (Wp (d e s) (fun p e s => ∃ k fs, p = .ref k ∧ s[k]? = some (.ins c fs) ∧ fs.lookup m = none ∧ Wp (da e s) (fun ps e s => ps.length + 1 = n ∧ Fn (den (.ref k :: ps) s) (fun p s => Q p e s) (fun c w s => R c w e s)) R) R) := ⟨fun h => wp_meth h⟩
instance st_wp_make : Stp (Wp (dMake c n den da e s) Q R) (Wp (da e s) (fun ps e s => ps.length + 1 = n ∧ Fn (den (.ref s.length :: ps) (s ++ [.ins c []])) (fun p s' => p = .non ∧ Q (.ref s.length) e s') (fun c w s => R c w e s)) R) := ⟨fun h => wp_make h⟩
instance st_wp_srtI {Q : Pq (List PV)} : Stp (Wp (dSrtI d e s) Q R) (Wp (d e s) (fun p e s => ∃ xs ns, res s p = .lst xs ∧ intsOf xs = some ns ∧ Q ((ns.mergeSort leI).map PV.int) e s) R) := ⟨fun h => wp_srtI h⟩
theorem x_fld {k : Nat} {fs : List (Str × PV)} {w : PV} {Q : PV → Prop} (h : s[k]? = some (.ins c fs)) (hl : fs.lookup f = some w) (hq : Q w) : ∃ k' fs' w', PV.ref k = .ref k' ∧ s[k']? = some (.ins c fs') ∧ fs'.lookup f = some w' ∧ Q w' := ⟨k, fs, w, rfl, h, hl, hq⟩
theorem x_setF {k : Nat} {fs : List (Str × PV)} {w : PV} {Q : Stt → Prop} (h : s[k]? = some (.ins c fs)) (hl : fs.length < 1000) (hq : ∀ s', s' = s.set k (.ins c (putP' f w fs)) → Q s') : ∃ k' fs', PV.ref k = .ref k' ∧ s[k']? = some (.ins c fs') ∧ fs'.length < 1000 ∧ Q (s.set k' (.ins c (putP' f w fs'))) := ⟨k, fs, rfl, h, hl, hq _ rfl⟩
theorem x_meth {k : Nat} {fs : List (Str × PV)} {Q : Nat → Prop} (h : s[k]? = some (.ins c fs)) (hl : fs.lookup m = none) (hq : Q k) : ∃ k' fs', PV.ref k = .ref k' ∧ s[k']? = some (.ins c fs') ∧ fs'.lookup m = none ∧ Q k' := ⟨k, fs, rfl, h, hl, hq⟩
end
end I
end FS
set_option Elab.async false
set_option linter.all false
set_option maxRecDepth 100000
/-! K54Den: the defs of law_k54_clerk_beside_another as data (printed by our gen.py) -/
namespace FS
open PySem L2
/-- _law_pool(_law_script); names: 0 _law_script, 1 _law_first, 2 _law_size -/
@[irreducible] noncomputable def body__law_pool : Cd Flw := dSeq (dSet 1 (dIfE (dB (dOp pGt (dFn fLen (dCons (dUse 0) (dNil))) (ret (.int 0)))) (dFn fInt (dCons (dOp pIx (dUse 0) (ret (.int 0))) (dNil))) (ret (.int 0)))) (dSeq (dSet 2 (dIfE (dB (dOp pGe (dUse 1) (ret (.int 0)))) (dOp pMul (ret (.int 2)) (dUse 1)) (dOp pSub (dUn pNeg (ret (.int 1))) (dOp pMul (ret (.int 2)) (dUse 1))))) (dRet (dNew (dDisp (dCons (dIfE (dB (dOp pGe (dUse 2) (dOp pPow (ret (.int 10)) (ret (.int 18))))) (dUse 2) (ret (.int 0))) (dCons (dOp pAdd (dOp pMod (dFn fInt (dCons (dOp pAdd (dOp pMul (dUse 2) (ret (.int 48271))) (ret (.int 1009))) (dNil))) (ret (.int 2147483629))) (ret (.int 3))) (dCons (dNew (dListF (dCut (dUse 0) (dPart (ret (.int 1))) (dNoPart)))) (dNil))))))))
@[irreducible] noncomputable def den__law_pool : List PV → Stt → Res := runD 3 1 body__law_pool
/-- _law_draw(_law_pool_here, _law_many); names: 0 _law_pool_here, 1 _law_many, 2 _law_first, 3 _law_size, 4 _law_found -/
@[irreducible] noncomputable def body__law_draw : Cd Flw := dSeq (dIf (dAndT (dB (dOp pEq (dOp pIx (dUse 0) (ret (.int 0))) (ret (.int 0)))) (dB (dOp pNe (dOp pIx (dUse 0) (ret (.int 2))) (dFrz (dDisp (dNil)))))) (dSeq (dSet 2 (dFn fInt (dCons (dMthR mPopAt (dOp pIx (dUse 0) (ret (.int 2))) (dCons (ret (.int 0)) (dNil))) (dNil)))) (dSeq (dSet 3 (dIfE (dB (dOp pGe (dUse 2) (ret (.int 0)))) (dOp pMul (ret (.int 2)) (dUse 2)) (dOp pSub (dUn pNeg (ret (.int 1))) (dOp pMul (ret (.int 2)) (dUse 2))))) (dSeq (dSetR (dUse 0) (ret (.int 0)) (dIfE (dB (dOp pGe (dUse 3) (dOp pPow (ret (.int 10)) (ret (.int 18))))) (dUse 3) (ret (.int 0)))) (dSetR (dUse 0) (ret (.int 1)) (dOp pAdd (dOp pMod (dFn fInt (dCons (dOp pAdd (dOp pIx (dUse 0) (ret (.int 1))) (dOp pMul (dUse 3) (ret (.int 69621)))) (dNil))) (ret (.int 2147483629))) (ret (.int 3))))))) (nxt)) (dSeq (dIf (dB (dOp pGt (dOp pIx (dUse 0) (ret (.int 0))) (ret (.int 0)))) (dSeq (dSet 4 (dOp pMod (dFn fInt (dCons (dOp pIx (dUse 0) (ret (.int 0))) (dNil))) (dUse 1))) (dSeq (dSetR (dUse 0) (ret (.int 0)) (dOp pDiv (dOp pIx (dUse 0) (ret (.int 0))) (dUse 1))) (dRet (dUse 4)))) (nxt)) (dSeq (dSetR (dUse 0) (ret (.int 1)) (dOp pMod (dFn fInt (dCons (dOp pAdd (dOp pMul (dOp pIx (dUse 0) (ret (.int 1))) (ret (.int 48271))) (ret (.int 11))) (dNil))) (ret (.int 2147483647)))) (dRet (dOp pMod (dOp pDiv (dOp pMod (dFn fInt (dCons (dOp pMul (dOp pIx (dUse 0) (ret (.int 1))) (dOp pIx (dUse 0) (ret (.int 1)))) (dNil))) (ret (.int 2147483629))) (ret (.int 32))) (dUse 1)))))
@[irreducible] noncomputable def den__law_draw : List PV → Stt → Res := runD 5 2 body__law_draw
/-- _law_pick(_law_pool_here, _law_things); names: 0 _law_pool_here, 1 _law_things -/
@[irreducible] noncomputable def body__law_pick : Cd Flw := dRet (dOp pIx (dUse 1) (dCall 2 den__law_draw (dCons (dUse 0) (dCons (dFn fLen (dCons (dUse 1) (dNil))) (dNil)))))
@[irreducible] noncomputable def den__law_pick : List PV → Stt → Res := runD 2 2 body__law_pick
/-- _law_turned(_law_pool_here, _law_many); names: 0 _law_pool_here, 1 _law_many, 2 _law_left, 3 _law_found, 4 _law_turn -/
@[irreducible] noncomputable def body__law_turned : Cd Flw := dSeq (dOwnNil 2 3 (dRngL (dCons (dUse 1) dNil))) (dSeq (dFor (dRng1 (dCons (dUse 1) (dNil))) (gSet 4) (dDrop (dMthO 3 mAppend (dCons (dMthO 2 mPopAt (dCons (dCall 2 den__law_draw (dCons (dUse 0) (dCons (dLenO 2) (dNil)))) (dNil))) (dNil))))) (dRet (dUse 3)))
@[irreducible] noncomputable def den__law_turned : List PV → Stt → Res := runD 5 2 body__law_turned
/-- _law_ground(_law_pool_here, _law_most, _law_many); names: 0 _law_pool_here, 1 _law_most, 2 _law_many, 3 _law_p, 4 _law_count, 5 _law_points, 6 _law_begin, 7 _law_gap, 8 _law_at -/
@[irreducible] noncomputable def body__law_ground : Cd Flw := dSeq (dSet 3 (dCall 2 den__law_pick (dCons (dUse 0) (dCons (dFrz (dDisp (dCons (ret (.int 2)) (dCons (ret (.int 3)) (dCons (ret (.int 5)) (dCons (ret (.int 7)) (dCons (ret (.int 2)) (dCons (ret (.int 3)) (dCons (ret (.int 5)) (dCons (ret (.int 7)) (dCons (ret (.int 11)) (dCons (ret (.int 13)) (dCons (ret (.int 32749)) (dCons (ret (.int 65521)) (dNil))))))))))))))) (dNil))))) (dSeq (dSet 4 (dOp pAdd (ret (.int 1)) (dCall 2 den__law_draw (dCons (dUse 0) (dCons (dFn fMin (dCons (dUse 2) (dCons (dOp pAdd (dUse 3) (ret (.int 1))) (dNil)))) (dNil)))))) (dSeq (dIf (dB (dOp pLt (dUse 3) (ret (.int 16)))) (dOwn 5 (dCutL (dCall 2 den__law_turned (dCons (dUse 0) (dCons (dOp pAdd (dUse 3) (ret (.int 1))) (dNil)))) (dNoPart) (dPart (dUse 4)))) (dSeq (dAsg (dTup (dCons (dCall 2 den__law_draw (dCons (dUse 0) (dCons (dOp pAdd (dUse 3) (ret (.int 1))) (dNil)))) (dCons (dOp pAdd (ret (.int 1)) (dCall 2 den__law_draw (dCons (dUse 0) (dCons (dOp pDiv (dOp pAdd (dUse 3) (ret (.int 1))) (ret (.int 8))) (dNil))))) (dNil)))) (gTupD 2 (gsCons (gSet 6) (gsCons (gSet 7) (gsNil))))) (dSeq (dOwn 5 (dComp (dRng1 (dCons (dUse 4) (dNil))) [8] (gSet 8) (ret true) (dOp pMod (dFn fInt (dCons (dOp pAdd (dUse 6) (dOp pMul (dUse 8) (dUse 7))) (dNil))) (dOp pAdd (dUse 3) (ret (.int 1)))))) (dIf (dAndT (dB (dInO true (dUse 3) 5)) (dB (dOp pEq (dCall 2 den__law_draw (dCons (dUse 0) (dCons (ret (.int 2)) (dNil)))) (ret (.int 0))))) (dSetO 5 (dCall 2 den__law_draw (dCons (dUse 0) (dCons (dUse 4) (dNil)))) (dUse 3)) (nxt))))) (dRet (dTup (dCons (dUse 3) (dCons (dOp pAdd (ret (.int 1)) (dCall 2 den__law_draw (dCons (dUse 0) (dCons (dUse 1) (dNil))))) (dCons (dFn fTuple (dCons (dUse 5) (dNil))) (dNil))))))))
@[irreducible] noncomputable def den__law_ground : List PV → Stt → Res := runD 9 3 body__law_ground
/-- _law_bound(_law_pool_here); names: 0 _law_pool_here -/
@[irreducible] noncomputable def body__law_bound : Cd Flw := dRet (dCall 2 den__law_pick (dCons (dUse 0) (dCons (dFrz (dDisp (dCons (ret (.int 0)) (dCons (ret (.int 0)) (dCons (ret (.int 0)) (dCons (ret (.int 1)) (dCons (ret (.int 1)) (dCons (ret (.int 2)) (dCons (ret (.int 3)) (dCons (ret .non) (dNil))))))))))) (dNil))))
@[irreducible] noncomputable def den__law_bound : List PV → Stt → Res := runD 1 1 body__law_bound
/-- _law_row(_law_pool_here, _law_many); names: 0 _law_pool_here, 1 _law_many, 2 _law_shelf, 3 _law_struck, 4 _law_turn -/
@[irreducible] noncomputable def body__law_row : Cd Flw := dSeq (dIf (dB (dOp pEq (dCall 2 den__law_draw (dCons (dUse 0) (dCons (ret (.int 3)) (dNil)))) (ret (.int 0)))) (dRet (dFn fTuple (dCons (dFrz (dComp (dRng1 (dCons (dUse 1) (dNil))) [2] (gSet 2) (ret true) (dTup (dCons (dCall 1 den__law_bound (dCons (dUse 0) (dNil))) (dCons (dCall 1 den__law_bound (dCons (dUse 0) (dNil))) (dNil)))))) (dNil)))) (nxt)) (dSeq (dSet 3 (dFrz (dComp (dRng1 (dCons (dOp pAdd (ret (.int 1)) (dCall 2 den__law_draw (dCons (dUse 0) (dCons (ret (.int 2)) (dNil))))) (dNil))) [4] (gSet 4) (ret true) (dCall 2 den__law_draw (dCons (dUse 0) (dCons (dUse 1) (dNil))))))) (dRet (dFn fTuple (dCons (dFrz (dComp (dRng1 (dCons (dUse 1) (dNil))) [2] (gSet 2) (ret true) (dIfE (dB (dOp pInA (dUse 2) (dUse 3))) (dTup (dCons (dCall 1 den__law_bound (dCons (dUse 0) (dNil))) (dCons (dCall 1 den__law_bound (dCons (dUse 0) (dNil))) (dNil)))) (dTup (dCons (ret (.int 0)) (dCons (ret (.int 0)) (dNil))))))) (dNil)))))
@[irreducible] noncomputable def den__law_row : List PV → Stt → Res := runD 5 2 body__law_row
/-- _law_book(_law_pool_here, _law_many); names: 0 _law_pool_here, 1 _law_many, 2 _law_way, 3 _law_fate, 4 _law_shelf, 5 _law_other, 6 _law_turn -/
@[irreducible] noncomputable def body__law_book : Cd Flw := dSeq (dSet 2 (dCall 2 den__law_draw (dCons (dUse 0) (dCons (ret (.int 6)) (dNil))))) (dSeq (dIf (dB (dOp pLt (dUse 2) (ret (.int 2)))) (dSeq (dSet 3 (dOp pIx (dFrz (dDisp (dCons (dTup (dCons (ret .non) (dCons (ret (.int 0)) (dNil)))) (dCons (dTup (dCons (ret (.int 0)) (dCons (ret .non) (dNil)))) (dNil))))) (dUse 2))) (dRet (dFn fTuple (dCons (dFrz (dComp (dRng1 (dCons (dUse 1) (dNil))) [5] (gSet 5) (ret true) (dFn fTuple (dCons (dFrz (dComp (dRng1 (dCons (dUse 1) (dNil))) [4] (gSet 4) (ret true) (dIfE (dB (dOp pEq (dUse 4) (dUse 5))) (dUse 3) (dTup (dCons (ret (.int 0)) (dCons (ret (.int 0)) (dNil))))))) (dNil))))) (dNil))))) (nxt)) (dRet (dFn fTuple (dCons (dFrz (dComp (dRng1 (dCons (dOp pAdd (ret (.int 1)) (dCall 2 den__law_draw (dCons (dUse 0) (dCons (ret (.int 4)) (dNil))))) (dNil))) [6] (gSet 6) (ret true) (dCall 2 den__law_row (dCons (dUse 0) (dCons (dUse 1) (dNil)))))) (dNil)))))
@[irreducible] noncomputable def den__law_book : List PV → Stt → Res := runD 7 2 body__law_book
/-- is_whole(thing, low, high); names: 0 thing, 1 low, 2 high -/
@[irreducible] noncomputable def body_is_whole : Cd Flw := dRet (dAndV (dFn fIsi (dCons (dUse 0) (dCons (ret (.raw (.ty "int"))) (dNil)))) (dAndV (dNotV (dFn fIsi (dCons (dUse 0) (dCons (ret (.raw (.ty "bool"))) (dNil))))) (dChain pLe pLe (dUse 1) (dUse 0) (dUse 2))))
@[irreducible] noncomputable def den_is_whole : List PV → Stt → Res := runD 3 3 body_is_whole
/-- is_prime(n); names: 0 n, 1 divisor -/
@[irreducible] noncomputable def body_is_prime : Cd Flw := dSeq (dIf (dNotT (dTru (dCall 3 den_is_whole (dCons (dUse 0) (dCons (ret (.int 2)) (dCons (ret (.int 65521)) (dNil))))))) (dRet (ret (.bl false))) (nxt)) (dSeq (dSet 1 (ret (.int 2))) (dSeq (dWhile (dB (dOp pLe (dOp pMul (dUse 1) (dUse 1)) (dUse 0))) (dSeq (dIf (dB (dOp pEq (dOp pMod (dUse 0) (dUse 1)) (ret (.int 0)))) (dRet (ret (.bl false))) (nxt)) (dSet 1 (dOp pAdd (dUse 1) (ret (.int 1)))))) (dRet (ret (.bl true)))))
@[irreducible] noncomputable def den_is_prime : List PV → Stt → Res := runD 2 1 body_is_prime
/-- are_points(p, thing); names: 0 p, 1 thing, 2 index -/
@[irreducible] noncomputable def body_are_points : Cd Flw := dSeq (dIf (dOrT (dNotT (dTru (dFn fIsi (dCons (dUse 1) (dCons (ret (.raw (.ty "tuple"))) (dNil)))))) (dNotT (dB (dChain pLe pLe (ret (.int 1)) (dFn fLen (dCons (dUse 1) (dNil))) (ret (.int 8)))))) (dRet (ret (.bl false))) (nxt)) (dSeq (dFor (dRng1 (dCons (dFn fLen (dCons (dUse 1) (dNil))) (dNil))) (gSet 2) (dIf (dOrT (dNotT (dTru (dCall 3 den_is_whole (dCons (dOp pIx (dUse 1) (dUse 2)) (dCons (ret (.int 0)) (dCons (dUse 0) (dNil))))))) (dB (dOp pInA (dOp pIx (dUse 1) (dUse 2)) (dCut (dUse 1) (dNoPart) (dPart (dUse 2)))))) (dRet (ret (.bl false))) (nxt))) (dRet (ret (.bl true))))
@[irreducible] noncomputable def den_are_points : List PV → Stt → Res := runD 3 2 body_are_points
/-- made_ground(thing); names: 0 thing -/
@[irreducible] noncomputable def body_made_ground : Cd Flw := dSeq (dIf (dOrT (dNotT (dTru (dFn fIsi (dCons (dUse 0) (dCons (ret (.raw (.ty "tuple"))) (dNil)))))) (dB (dOp pNe (dFn fLen (dCons (dUse 0) (dNil))) (ret (.int 3))))) (dRaise "BadGround" (dUn pNeg (ret (.int 1)))) (nxt)) (dSeq (dIf (dNotT (dTru (dCall 1 den_is_prime (dCons (dOp pIx (dUse 0) (ret (.int 0))) (dNil))))) (dRaise "BadGround" (ret (.int 0))) (nxt)) (dSeq (dIf (dNotT (dTru (dCall 3 den_is_whole (dCons (dOp pIx (dUse 0) (ret (.int 1))) (dCons (ret (.int 1)) (dCons (ret (.int 12)) (dNil))))))) (dRaise "BadGround" (ret (.int 1))) (nxt)) (dSeq (dIf (dNotT (dTru (dCall 2 den_are_points (dCons (dOp pIx (dUse 0) (ret (.int 0))) (dCons (dOp pIx (dUse 0) (ret (.int 2))) (dNil)))))) (dRaise "BadGround" (ret (.int 2))) (nxt)) (dRet (dUse 0)))))
@[irreducible] noncomputable def den_made_ground : List PV → Stt → Res := runD 1 1 body_made_ground
/-- is_below(thing, many); names: 0 thing, 1 many -/
@[irreducible] noncomputable def body_is_below : Cd Flw := dRet (dAndV (dFn fIsi (dCons (dUse 0) (dCons (ret (.raw (.ty "int"))) (dNil)))) (dAndV (dNotV (dFn fIsi (dCons (dUse 0) (dCons (ret (.raw (.ty "bool"))) (dNil))))) (dChain pLe pLt (ret (.int 0)) (dUse 0) (dUse 1))))
@[irreducible] noncomputable def den_is_below : List PV → Stt → Res := runD 2 2 body_is_below
/-- is_bound(thing); names: 0 thing -/
@[irreducible] noncomputable def body_is_bound : Cd Flw := dRet (dOrV (dOp pIs (dUse 0) (ret .non)) (dCall 2 den_is_below (dCons (dUse 0) (dCons (dOp pAdd (ret (.int 64)) (ret (.int 1))) (dNil)))))
@[irreducible] noncomputable def den_is_bound : List PV → Stt → Res := runD 1 1 body_is_bound
/-- is_fate(thing); names: 0 thing -/
@[irreducible] noncomputable def body_is_fate : Cd Flw := dRet (dAndV (dFn fIsi (dCons (dUse 0) (dCons (ret (.raw (.ty "tuple"))) (dNil)))) (dAndV (dOp pEq (dFn fLen (dCons (dUse 0) (dNil))) (ret (.int 2))) (dAndV (dCall 1 den_is_bound (dCons (dOp pIx (dUse 0) (ret (.int 0))) (dNil))) (dCall 1 den_is_bound (dCons (dOp pIx (dUse 0) (ret (.int 1))) (dNil))))))
@[irreducible] noncomputable def den_is_fate : List PV → Stt → Res := runD 1 1 body_is_fate
/-- is_row(many, thing); names: 0 many, 1 thing, 2 fate -/
@[irreducible] noncomputable def body_is_row : Cd Flw := dSeq (dIf (dOrT (dNotT (dTru (dFn fIsi (dCons (dUse 1) (dCons (ret (.raw (.ty "tuple"))) (dNil)))))) (dB (dOp pNe (dFn fLen (dCons (dUse 1) (dNil))) (dUse 0)))) (dRet (ret (.bl false))) (nxt)) (dSeq (dFor (dItems (dUse 1)) (gSet 2) (dIf (dNotT (dTru (dCall 1 den_is_fate (dCons (dUse 2) (dNil))))) (dRet (ret (.bl false))) (nxt))) (dRet (ret (.bl true))))
@[irreducible] noncomputable def den_is_row : List PV → Stt → Res := runD 3 2 body_is_row
/-- made_book(many, thing); names: 0 many, 1 thing, 2 index, 3 row -/
@[irreducible] noncomputable def body_made_book : Cd Flw := dSeq (dIf (dOrT (dNotT (dTru (dCall 2 den_is_below (dCons (dUse 0) (dCons (dOp pAdd (ret (.int 8)) (ret (.int 1))) (dNil)))))) (dB (dOp pEq (dUse 0) (ret (.int 0))))) (dRaise "BadMany" (dUse 0)) (nxt)) (dSeq (dIf (dOrT (dNotT (dTru (dFn fIsi (dCons (dUse 1) (dCons (ret (.raw (.ty "tuple"))) (dNil)))))) (dB (dOp pEq (dUse 1) (dTup (dNil))))) (dRaise "BadBook" (dUn pNeg (ret (.int 1)))) (nxt)) (dSeq (dIf (dB (dOp pGt (dFn fLen (dCons (dUse 1) (dNil))) (ret (.int 24)))) (dRaise "TooMany" (dFn fLen (dCons (dUse 1) (dNil)))) (nxt)) (dSeq (dFor (dEnum (dCons (dUse 1) (dNil))) (gTupD 2 (gsCons (gSet 2) (gsCons (gSet 3) (gsNil)))) (dIf (dNotT (dTru (dCall 2 den_is_row (dCons (dUse 0) (dCons (dUse 3) (dNil)))))) (dRaise "BadBook" (dUse 2)) (nxt))) (dRet (dUse 1)))))
@[irreducible] noncomputable def den_made_book : List PV → Stt → Res := runD 4 2 body_made_book
/-- shelves(ground); names: 0 ground -/
@[irreducible] noncomputable def body_shelves : Cd Flw := dRet (dFn fLen (dCons (dOp pIx (dCall 1 den_made_ground (dCons (dUse 0) (dNil))) (ret (.int 2))) (dNil)))
@[irreducible] noncomputable def den_shelves : List PV → Stt → Res := runD 1 1 body_shelves
/-- Clerk____init__(self, ground, book); names: 0 self, 1 ground, 2 book -/
@[irreducible] noncomputable def body_Clerk____init__ : Cd Flw := dSeq (dDrop (dCall 1 den_made_ground (dCons (dUse 1) (dNil)))) (dSeq (dDrop (dCall 2 den_made_book (dCons (dCall 1 den_shelves (dCons (dUse 1) (dNil))) (dCons (dUse 2) (dNil))))) (dSeq (dSetF "Clerk" "ground" (dUse 0) (dUse 1)) (dSeq (dSetF "Clerk" "book" (dUse 0) (dUse 2)) (dSeq (dSetF "Clerk" "tapes" (dUse 0) (dNew (dMulL (dFrz (dDisp (dCons (dTup (dNil)) (dNil)))) (dCall 1 den_shelves (dCons (dUse 1) (dNil)))))) (dSeq (dSetF "Clerk" "safe_now" (dUse 0) (dFrz (dDisp (dNil)))) (dSetF "Clerk" "unsafe" (dUse 0) (dFrz (dDisp (dNil)))))))))
@[irreducible] noncomputable def den_Clerk____init__ : List PV → Stt → Res := runD 3 3 body_Clerk____init__
/-- met(weaving); names: 0 weaving, 1 tape, 2 b -/
@[irreducible] noncomputable def body_met : Cd Flw := dRet (dFrz (dAlt (isRf 0) (dMetR 1 2 (dUse 0)) (dMet 1 2 (dUse 0))))
@[irreducible] noncomputable def den_met : List PV → Stt → Res := runD 3 1 body_met
/-- without(length, many); names: 0 length, 1 many -/
@[irreducible] noncomputable def body_without : Cd Flw := dRet (dIfE (dB (dOp pIs (dUse 1) (ret .non))) (ret (.int 0)) (dFn fMax (dCons (ret (.int 0)) (dCons (dOp pSub (dUse 0) (dUse 1)) (dNil)))))
@[irreducible] noncomputable def den_without : List PV → Stt → Res := runD 2 2 body_without
/-- greater(one, other); names: 0 one, 1 other -/
@[irreducible] noncomputable def body_greater : Cd Flw := dRet (dIfE (dOrT (dB (dOp pIs (dUse 0) (ret .non))) (dB (dOp pIs (dUse 1) (ret .non)))) (ret .non) (dFn fMax (dCons (dUse 0) (dCons (dUse 1) (dNil)))))
@[irreducible] noncomputable def den_greater : List PV → Stt → Res := runD 2 2 body_greater
/-- lesser(one, other); names: 0 one, 1 other -/
@[irreducible] noncomputable def body_lesser : Cd Flw := dSeq (dIf (dOrT (dB (dOp pIs (dUse 0) (ret .non))) (dB (dOp pIs (dUse 1) (ret .non)))) (dRet (dIfE (dB (dOp pIs (dUse 0) (ret .non))) (dUse 1) (dUse 0))) (nxt)) (dRet (dFn fMin (dCons (dUse 0) (dCons (dUse 1) (dNil)))))
@[irreducible] noncomputable def den_lesser : List PV → Stt → Res := runD 2 2 body_lesser
/-- missing(fate, other, told); names: 0 fate, 1 other, 2 told -/
@[irreducible] noncomputable def body_missing : Cd Flw := dRet (dIfE (dTru (dUse 2)) (dCall 2 den_lesser (dCons (dOp pIx (dUse 0) (ret (.int 0))) (dCons (dOp pIx (dUse 1) (ret (.int 0))) (dNil)))) (dOp pIx (dUse 0) (ret (.int 0))))
@[irreducible] noncomputable def den_missing : List PV → Stt → Res := runD 3 3 body_missing
/-- head(length, fate, other, told); names: 0 length, 1 fate, 2 other, 3 told -/
@[irreducible] noncomputable def body_head : Cd Flw := dRet (dCall 2 den_without (dCons (dCall 2 den_without (dCons (dUse 0) (dCons (dCall 3 den_missing (dCons (dUse 1) (dCons (dUse 2) (dCons (dUse 3) (dNil))))) (dNil)))) (dCons (dCall 2 den_greater (dCons (dOp pIx (dUse 1) (ret (.int 1))) (dCons (dOp pIx (dUse 2) (ret (.int 1))) (dNil)))) (dNil))))
@[irreducible] noncomputable def den_head : List PV → Stt → Res := runD 4 4 body_head
/-- heads(lengths, row, other, told); names: 0 lengths, 1 row, 2 other, 3 told, 4 at -/
@[irreducible] noncomputable def body_heads : Cd Flw := dRet (dFrz (dComp (dRng1 (dCons (dFn fLen (dCons (dUse 0) (dNil))) (dNil))) [4] (gSet 4) (ret true) (dCall 4 den_head (dCons (dOp pIx (dUse 0) (dUse 4)) (dCons (dOp pIx (dUse 1) (dUse 4)) (dCons (dOp pIx (dUse 2) (dUse 4)) (dCons (dUse 3) (dNil))))))))
@[irreducible] noncomputable def den_heads : List PV → Stt → Res := runD 5 4 body_heads
/-- unlike_heads(book, told, weaving); names: 0 book, 1 told, 2 weaving, 3 lengths, 4 found, 5 tape, 6 row, 7 other, 8 certain -/
@[irreducible] noncomputable def body_unlike_heads : Cd Flw := dSeq (dSetNil 3 4 (dFrz (dAlt (isRf 2) (dCompR (dUse 2) [5] (gSet 5) (ret true) (dFn fLen (dCons (dUse 5) (dNil)))) (dComp (dItems (dUse 2)) [5] (gSet 5) (ret true) (dFn fLen (dCons (dUse 5) (dNil))))))) (dSeq (dFor (dItems (dUse 0)) (gSet 6) (dFor (dItems (dUse 0)) (gSet 7) (dSeq (dSet 8 (dCall 4 den_heads (dCons (dUse 3) (dCons (dUse 6) (dCons (dUse 7) (dCons (dUse 1) (dNil))))))) (dIf (dB (dInO true (dUse 8) 4)) (dDrop (dMthO 4 mAppend (dCons (dUse 8) (dNil)))) (nxt))))) (dRet (dUse 4)))
@[irreducible] noncomputable def den_unlike_heads : List PV → Stt → Res := runD 9 3 body_unlike_heads
/-- counts_ahead(tape, b); names: 0 tape, 1 b, 2 found, 3 number -/
@[irreducible] noncomputable def body_counts_ahead : Cd Flw := dSeq (dOwn 2 (dDisp (dCons (ret (.int 0)) (dNil)))) (dSeq (dFor (dItems (dUse 0)) (gSet 3) (dDrop (dMthO 2 mAppend (dCons (dOp pAdd (dIxO 2 (dUn pNeg (ret (.int 1)))) (dIfE (dB (dOp pEq (dUse 3) (dUse 1))) (ret (.int 1)) (ret (.int 0)))) (dNil))))) (dRet (dUse 2)))
@[irreducible] noncomputable def den_counts_ahead : List PV → Stt → Res := runD 4 2 body_counts_ahead
/-- safe_among(k, book, told, weaving, some); names: 0 k, 1 book, 2 told, 3 weaving, 4 some, 5 certain, 6 found, 7 b, 8 counts, 9 tape, 10 entries, 11 row -/
@[irreducible] noncomputable def body_safe_among : Cd Flw := dSeq (dSetNil 5 6 (dCall 3 den_unlike_heads (dCons (dUse 1) (dCons (dUse 2) (dCons (dUse 3) (dNil)))))) (dSeq (dFor (dItems (dUse 4)) (gSet 7) (dSeq (dSet 8 (dFrz (dAlt (isRf 3) (dCompR (dUse 3) [9] (gSet 9) (ret true) (dCall 2 den_counts_ahead (dCons (dUse 9) (dCons (dUse 7) (dNil))))) (dComp (dItems (dUse 3)) [9] (gSet 9) (ret true) (dCall 2 den_counts_ahead (dCons (dUse 9) (dCons (dUse 7) (dNil)))))))) (dSeq (dSet 10 (dFrz (dComp (dItems (dUse 5)) [11] (gSet 11) (ret true) (dSumG (dRng1 (dCons (dFn fLen (dCons (dUse 11) (dNil))) (dNil))) (qIx (qIx (qVar 8) (qItem)) (qIx (qVar 11) (qItem))))))) (dIf (dB (dOp pGe (dFn fMinL (dCons (dUse 10) (dNil))) (dUse 0))) (dDrop (dMthO 6 mAppend (dCons (dUse 7) (dNil)))) (nxt))))) (dRet (dUse 6)))
@[irreducible] noncomputable def den_safe_among : List PV → Stt → Res := runD 12 5 body_safe_among
/-- Clerk__safe_of(self, some); names: 0 self, 1 some -/
@[irreducible] noncomputable def body_Clerk__safe_of : Cd Flw := dRet (dCall 5 den_safe_among (dCons (dOp pIx (dFld "Clerk" "ground" (dUse 0)) (ret (.int 1))) (dCons (dFld "Clerk" "book" (dUse 0)) (dCons (ret (.bl false)) (dCons (dFld "Clerk" "tapes" (dUse 0)) (dCons (dUse 1) (dNil)))))))
@[irreducible] noncomputable def den_Clerk__safe_of : List PV → Stt → Res := runD 2 2 body_Clerk__safe_of
/-- Clerk__reckon_anew(self); names: 0 self, 1 before, 2 all_met, 3 b -/
@[irreducible] noncomputable def body_Clerk__reckon_anew : Cd Flw := dSeq (dPar 1 2 (dCons (dFld "Clerk" "safe_now" (dUse 0)) (dCons (dCall 1 den_met (dCons (dFld "Clerk" "tapes" (dUse 0)) (dNil))) (dNil)))) (dSeq (dSetF "Clerk" "safe_now" (dUse 0) (dMeth "Clerk" "safe_of" 2 den_Clerk__safe_of (dUse 0) (dCons (dUse 2) (dNil)))) (dSeq (dSetF "Clerk" "unsafe" (dUse 0) (dFrz (dComp (dItems (dUse 2)) [3] (gSet 3) (dB (dOp pNotInA (dUse 3) (dFld "Clerk" "safe_now" (dUse 0)))) (dUse 3)))) (dRet (dFrz (dComp (dItems (dUse 1)) [3] (gSet 3) (dB (dOp pNotInA (dUse 3) (dFld "Clerk" "safe_now" (dUse 0)))) (dUse 3))))))
@[irreducible] noncomputable def den_Clerk__reckon_anew : List PV → Stt → Res := runD 4 1 body_Clerk__reckon_anew
/-- Clerk__change(self, book); names: 0 self, 1 book -/
@[irreducible] noncomputable def body_Clerk__change : Cd Flw := dSeq (dDrop (dCall 2 den_made_book (dCons (dFn fLen (dCons (dFld "Clerk" "tapes" (dUse 0)) (dNil))) (dCons (dUse 1) (dNil))))) (dSeq (dSetF "Clerk" "book" (dUse 0) (dUse 1)) (dRet (dFn fTuple (dCons (dMeth "Clerk" "reckon_anew" 1 den_Clerk__reckon_anew (dUse 0) dNil) (dNil)))))
@[irreducible] noncomputable def den_Clerk__change : List PV → Stt → Res := runD 2 2 body_Clerk__change
/-- is_number(thing, low, high); names: 0 thing, 1 low, 2 high -/
@[irreducible] noncomputable def body_is_number : Cd Flw := dRet (dAndV (dFn fIsi (dCons (dUse 0) (dCons (ret (.raw (.ty "int"))) (dNil)))) (dAndV (dNotV (dFn fIsi (dCons (dUse 0) (dCons (ret (.raw (.ty "bool"))) (dNil))))) (dChain pLe pLe (dUse 1) (dUse 0) (dUse 2))))
@[irreducible] noncomputable def den_is_number : List PV → Stt → Res := runD 3 3 body_is_number
/-- Clerk__check_shelf(self, shelf); names: 0 self, 1 shelf -/
@[irreducible] noncomputable def body_Clerk__check_shelf : Cd Flw := dIf (dNotT (dTru (dCall 3 den_is_number (dCons (dUse 1) (dCons (ret (.int 0)) (dCons (dOp pSub (dFn fLen (dCons (dFld "Clerk" "tapes" (dUse 0)) (dNil))) (ret (.int 1))) (dNil))))))) (dRaise "BadShelf" (dUse 1)) (nxt)
@[irreducible] noncomputable def den_Clerk__check_shelf : List PV → Stt → Res := runD 2 2 body_Clerk__check_shelf
/-- Clerk__lost(self, shelf); names: 0 self, 1 shelf -/
@[irreducible] noncomputable def body_Clerk__lost : Cd Flw := dSeq (dDrop (dMeth "Clerk" "check_shelf" 2 den_Clerk__check_shelf (dUse 0) (dCons (dUse 1) (dNil)))) (dSeq (dSetR (dFld "Clerk" "tapes" (dUse 0)) (dUse 1) (dTup (dNil))) (dRet (dFn fTuple (dCons (dMeth "Clerk" "reckon_anew" 1 den_Clerk__reckon_anew (dUse 0) dNil) (dNil)))))
@[irreducible] noncomputable def den_Clerk__lost : List PV → Stt → Res := runD 2 2 body_Clerk__lost
/-- Clerk__write(self, shelf, b); names: 0 self, 1 shelf, 2 b, 3 news, 4 other -/
@[irreducible] noncomputable def body_Clerk__write : Cd Flw := dSeq (dDrop (dMeth "Clerk" "check_shelf" 2 den_Clerk__check_shelf (dUse 0) (dCons (dUse 1) (dNil)))) (dSeq (dIf (dNotT (dTru (dCall 3 den_is_number (dCons (dUse 2) (dCons (ret (.int 0)) (dCons (dOp pSub (ret (.int 64)) (ret (.int 1))) (dNil))))))) (dRaise "BadNumber" (dUse 2)) (nxt)) (dSeq (dIf (dB (dOp pEq (dFn fLen (dCons (dOp pIx (dFld "Clerk" "tapes" (dUse 0)) (dUse 1)) (dNil))) (ret (.int 1024)))) (dRaise "Full" (dUse 1)) (nxt)) (dSeq (dSetR (dFld "Clerk" "tapes" (dUse 0)) (dUse 1) (dOp pAdd (dOp pIx (dFld "Clerk" "tapes" (dUse 0)) (dUse 1)) (dTup (dCons (dUse 2) (dNil))))) (dSeq (dIf (dAndT (dB (dOp pNotInA (dUse 2) (dFld "Clerk" "safe_now" (dUse 0)))) (dB (dOp pNotInA (dUse 2) (dFld "Clerk" "unsafe" (dUse 0))))) (dSetF "Clerk" "unsafe" (dUse 0) (dFrz (dSrtI (dOp pAdd (dFld "Clerk" "unsafe" (dUse 0)) (dFrz (dDisp (dCons (dUse 2) (dNil)))))))) (nxt)) (dSeq (dSet 3 (dMeth "Clerk" "safe_of" 2 den_Clerk__safe_of (dUse 0) (dCons (dFld "Clerk" "unsafe" (dUse 0)) (dNil)))) (dSeq (dSetF "Clerk" "unsafe" (dUse 0) (dFrz (dComp (dItems (dFld "Clerk" "unsafe" (dUse 0))) [4] (gSet 4) (dB (dOp pNotInA (dUse 4) (dUse 3))) (dUse 4)))) (dSeq (dSetF "Clerk" "safe_now" (dUse 0) (dFrz (dSrtI (dOp pAdd (dFld "Clerk" "safe_now" (dUse 0)) (dUse 3))))) (dRet (dFn fTuple (dCons (dUse 3) (dNil)))))))))))
@[irreducible] noncomputable def den_Clerk__write : List PV → Stt → Res := runD 5 3 body_Clerk__write
/-- Clerk__done(self); names: 0 self -/
@[irreducible] noncomputable def body_Clerk__done : Cd Flw := dRet (dFn fTuple (dCons (dFld "Clerk" "safe_now" (dUse 0)) (dNil)))
@[irreducible] noncomputable def den_Clerk__done : List PV → Stt → Res := runD 1 1 body_Clerk__done
/-- check_told(told); names: 0 told -/
@[irreducible] noncomputable def body_check_told : Cd Flw := dIf (dNotT (dTru (dFn fIsi (dCons (dUse 0) (dCons (ret (.raw (.ty "bool"))) (dNil)))))) (dRaise "BadTold" (dUse 0)) (nxt)
@[irreducible] noncomputable def den_check_told : List PV → Stt → Res := runD 1 1 body_check_told
/-- is_tape(thing); names: 0 thing, 1 number -/
@[irreducible] noncomputable def body_is_tape : Cd Flw := dSeq (dIf (dOrT (dNotT (dTru (dFn fIsi (dCons (dUse 0) (dCons (ret (.raw (.ty "tuple"))) (dNil)))))) (dB (dOp pGt (dFn fLen (dCons (dUse 0) (dNil))) (ret (.int 1024))))) (dRet (ret (.bl false))) (nxt)) (dSeq (dFor (dItems (dUse 0)) (gSet 1) (dIf (dNotT (dTru (dCall 2 den_is_below (dCons (dUse 1) (dCons (ret (.int 64)) (dNil)))))) (dRet (ret (.bl false))) (nxt))) (dRet (ret (.bl true))))
@[irreducible] noncomputable def den_is_tape : List PV → Stt → Res := runD 2 1 body_is_tape
/-- made_weaving(ground, thing); names: 0 ground, 1 thing, 2 shelf, 3 tape -/
@[irreducible] noncomputable def body_made_weaving : Cd Flw := dSeq (dSet 0 (dCall 1 den_made_ground (dCons (dUse 0) (dNil)))) (dSeq (dIf (dOrT (dNotT (dTru (dFn fIsi (dCons (dUse 1) (dCons (ret (.raw (.ty "tuple"))) (dNil)))))) (dB (dOp pNe (dFn fLen (dCons (dUse 1) (dNil))) (dCall 1 den_shelves (dCons (dUse 0) (dNil)))))) (dRaise "BadWeaving" (dUn pNeg (ret (.int 1)))) (nxt)) (dSeq (dFor (dEnum (dCons (dUse 1) (dNil))) (gTupD 2 (gsCons (gSet 2) (gsCons (gSet 3) (gsNil)))) (dIf (dNotT (dTru (dCall 1 den_is_tape (dCons (dUse 3) (dNil))))) (dRaise "BadWeaving" (dUse 2)) (nxt))) (dRet (dUse 1))))
@[irreducible] noncomputable def den_made_weaving : List PV → Stt → Res := runD 4 2 body_made_weaving
/-- checked(ground, book, told, weaving); names: 0 ground, 1 book, 2 told, 3 weaving -/
@[irreducible] noncomputable def body_checked : Cd Flw := dSeq (dDrop (dCall 1 den_made_ground (dCons (dUse 0) (dNil)))) (dSeq (dDrop (dCall 2 den_made_book (dCons (dCall 1 den_shelves (dCons (dUse 0) (dNil))) (dCons (dUse 1) (dNil))))) (dSeq (dDrop (dCall 1 den_check_told (dCons (dUse 2) (dNil)))) (dDrop (dCall 2 den_made_weaving (dCons (dUse 0) (dCons (dUse 3) (dNil)))))))
@[irreducible] noncomputable def den_checked : List PV → Stt → Res := runD 4 4 body_checked
/-- done(ground, book, told, weaving); names: 0 ground, 1 book, 2 told, 3 weaving -/
@[irreducible] noncomputable def body_done : Cd Flw := dSeq (dDrop (dCall 4 den_checked (dCons (dUse 0) (dCons (dUse 1) (dCons (dUse 2) (dCons (dUse 3) (dNil))))))) (dRet (dFn fTuple (dCons (dCall 5 den_safe_among (dCons (dOp pIx (dUse 0) (ret (.int 1))) (dCons (dUse 1) (dCons (dUse 2) (dCons (dUse 3) (dCons (dCall 1 den_met (dCons (dUse 3) (dNil))) (dNil))))))) (dNil))))
@[irreducible] noncomputable def den_done : List PV → Stt → Res := runD 4 4 body_done
/-- Clerk__weaving(self); names: 0 self -/
@[irreducible] noncomputable def body_Clerk__weaving : Cd Flw := dRet (dFn fTuple (dCons (dFld "Clerk" "tapes" (dUse 0)) (dNil)))
@[irreducible] noncomputable def den_Clerk__weaving : List PV → Stt → Res := runD 1 1 body_Clerk__weaving
/-- _law_least(_law_entries); names: 0 _law_entries, 1 _law_row_here -/
@[irreducible] noncomputable def body__law_least : Cd Flw := dRet (dFn fMinL (dCons (dFrz (dComp (dItems (dUse 0)) [1] (gSet 1) (ret true) (dFn fMinL (dCons (dUse 1) (dNil))))) (dNil)))
@[irreducible] noncomputable def den__law_least : List PV → Stt → Res := runD 2 1 body__law_least
/-- _law_greater(_law_one, _law_other); names: 0 _law_one, 1 _law_other -/
@[irreducible] noncomputable def body__law_greater : Cd Flw := dRet (dIfE (dOrT (dB (dOp pIs (dUse 0) (ret .non))) (dB (dOp pIs (dUse 1) (ret .non)))) (ret .non) (dFn fMax (dCons (dUse 0) (dCons (dUse 1) (dNil)))))
@[irreducible] noncomputable def den__law_greater : List PV → Stt → Res := runD 2 2 body__law_greater
/-- _law_lesser(_law_one, _law_other); names: 0 _law_one, 1 _law_other -/
@[irreducible] noncomputable def body__law_lesser : Cd Flw := dSeq (dIf (dOrT (dB (dOp pIs (dUse 0) (ret .non))) (dB (dOp pIs (dUse 1) (ret .non)))) (dRet (dIfE (dB (dOp pIs (dUse 0) (ret .non))) (dUse 1) (dUse 0))) (nxt)) (dRet (dFn fMin (dCons (dUse 0) (dCons (dUse 1) (dNil)))))
@[irreducible] noncomputable def den__law_lesser : List PV → Stt → Res := runD 2 2 body__law_lesser
/-- _law_head(_law_one, _law_other, _law_length, _law_told); names: 0 _law_one, 1 _law_other, 2 _law_length, 3 _law_told, 4 _law_lies, 5 _law_gone -/
@[irreducible] noncomputable def body__law_head : Cd Flw := dSeq (dPar 4 5 (dCons (dCall 2 den__law_greater (dCons (dOp pIx (dUse 0) (ret (.int 1))) (dCons (dOp pIx (dUse 1) (ret (.int 1))) (dNil)))) (dCons (dIfE (dTru (dUse 3)) (dCall 2 den__law_lesser (dCons (dOp pIx (dUse 0) (ret (.int 0))) (dCons (dOp pIx (dUse 1) (ret (.int 0))) (dNil)))) (dOp pIx (dUse 0) (ret (.int 0)))) (dNil)))) (dRet (dIfE (dOrT (dB (dOp pIs (dUse 4) (ret .non))) (dB (dOp pIs (dUse 5) (ret .non)))) (ret (.int 0)) (dFn fMax (dCons (ret (.int 0)) (dCons (dOp pSub (dOp pSub (dUse 2) (dUse 5)) (dUse 4)) (dNil))))))
@[irreducible] noncomputable def den__law_head : List PV → Stt → Res := runD 6 4 body__law_head
/-- _law_sums(_law_book_here, _law_told, _law_weaving, _law_b); names: 0 _law_book_here, 1 _law_told, 2 _law_weaving, 3 _law_b, 4 _law_found, 5 _law_one, 6 _law_entries, 7 _law_other, 8 _law_heads, 9 _law_shelf, 10 _law_tape -/
@[irreducible] noncomputable def body__law_sums : Cd Flw := dSeq (dOwn 4 (dDisp (dNil))) (dSeq (dFor (dItems (dUse 0)) (gSet 5) (dSeq (dOwn 6 (dDisp (dNil))) (dSeq (dFor (dItems (dUse 0)) (gSet 7) (dSeq (dSet 8 (dFrz (dComp (dEnum (dCons (dUse 2) (dNil))) [9, 10] (gTupD 2 (gsCons (gSet 9) (gsCons (gSet 10) (gsNil)))) (ret true) (dCall 4 den__law_head (dCons (dOp pIx (dUse 5) (dUse 9)) (dCons (dOp pIx (dUse 7) (dUse 9)) (dCons (dFn fLen (dCons (dUse 10) (dNil))) (dCons (dUse 1) (dNil))))))))) (dDrop (dMthO 6 mAppend (dCons (dFn fSum (dCons (dFrz (dComp (dEnum (dCons (dUse 2) (dNil))) [9, 10] (gTupD 2 (gsCons (gSet 9) (gsCons (gSet 10) (gsNil)))) (ret true) (dCount (dCut (dUse 10) (dNoPart) (dPart (dOp pIx (dUse 8) (dUse 9)))) (dCons (dUse 3) (dNil))))) (dNil))) (dNil)))))) (dDrop (dMthO 4 mAppend (dCons (dFn fTuple (dCons (dUse 6) (dNil))) (dNil))))))) (dRet (dFn fTuple (dCons (dUse 4) (dNil)))))
@[irreducible] noncomputable def den__law_sums : List PV → Stt → Res := runD 11 4 body__law_sums
/-- _law_anew(_law_pool_here, _law_ground_here, _law_book_here, _law_tapes); names: 0 _law_pool_here, 1 _law_ground_here, 2 _law_book_here, 3 _law_tapes, 4 _law_clerk, 5 _law_left, 6 _law_found, 7 _law_tape, 8 _law_turn, 9 _law_some, 10 _law_shelf -/
@[irreducible] noncomputable def body__law_anew : Cd Flw := dSeq (dAsg (dTup (dCons (dMake "Clerk" 3 den_Clerk____init__ (dCons (dUse 1) (dCons (dUse 2) (dNil)))) (dCons (dFrz (dCompR (dUse 3) [7] (gSet 7) (ret true) (dNew (dListF (dUse 7))))) (dCons (dNew (dDisp (dNil))) (dNil))))) (gTupD 3 (gsCons (gSet 4) (gsCons (gSet 5) (gsCons (gSet 6) (gsNil)))))) (dSeq (dFor (dRng1 (dCons (dFn fSum (dCons (dFrz (dCompR (dUse 3) [7] (gSet 7) (ret true) (dFn fLen (dCons (dUse 7) (dNil))))) (dNil))) (dNil))) (gSet 8) (dSeq (dSet 9 (dFrz (dComp (dRng1 (dCons (dFn fLen (dCons (dUse 5) (dNil))) (dNil))) [10] (gSet 10) (dB (dOp pNe (dOp pIx (dUse 5) (dUse 10)) (dFrz (dDisp (dNil))))) (dUse 10)))) (dSeq (dSet 10 (dOp pIx (dUse 9) (dCall 2 den__law_draw (dCons (dUse 0) (dCons (dFn fLen (dCons (dUse 9) (dNil))) (dNil)))))) (dDrop (dMthR mExtT (dUse 6) (dCons (dMeth "Clerk" "write" 3 den_Clerk__write (dUse 4) (dCons (dUse 10) (dCons (dMthR mPopAt (dOp pIx (dUse 5) (dUse 10)) (dCons (ret (.int 0)) (dNil))) (dNil)))) (dNil))))))) (dRet (dTup (dCons (dMeth "Clerk" "done" 1 den_Clerk__done (dUse 4) dNil) (dCons (dMeth "Clerk" "weaving" 1 den_Clerk__weaving (dUse 4) dNil) (dCons (dFn fTuple (dCons (dFrz (dSrtI (dUse 6))) (dNil))) (dNil)))))))
@[irreducible] noncomputable def den__law_anew : List PV → Stt → Res := runD 11 4 body__law_anew
/-- law(_law_script); names: 0 _law_script, 1 _law_pool_here, 2 _law_ground_here, 3 _law_many, 4 _law_book_here, 5 _law_clerk, 6 _law_tapes, 7 _law_shelf, 8 _law_turn, 9 _law_way, 10 _law_due, 11 _law_b, 12 _law_told -/
@[irreducible] noncomputable def body_law : Cd Flw := dSeq (dSet 1 (dCall 1 den__law_pool (dCons (dUse 0) (dNil)))) (dSeq (dSet 2 (dCall 3 den__law_ground (dCons (dUse 1) (dCons (ret (.int 3)) (dCons (ret (.int 4)) (dNil)))))) (dSeq (dSet 3 (dFn fLen (dCons (dOp pIx (dUse 2) (ret (.int 2))) (dNil)))) (dSeq (dSet 4 (dCall 2 den__law_book (dCons (dUse 1) (dCons (dUse 3) (dNil))))) (dSeq (dAsg (dTup (dCons (dMake "Clerk" 3 den_Clerk____init__ (dCons (dUse 2) (dCons (dUse 4) (dNil)))) (dCons (dNew (dComp (dRng1 (dCons (dUse 3) (dNil))) [7] (gSet 7) (ret true) (dTup (dNil)))) (dNil)))) (gTupD 2 (gsCons (gSet 5) (gsCons (gSet 6) (gsNil))))) (dSeq (dFor (dRng1 (dCons (dOp pAdd (ret (.int 3)) (dCall 2 den__law_draw (dCons (dUse 1) (dCons (ret (.int 10)) (dNil))))) (dNil))) (gSet 8) (dSeq (dPar 9 7 (dCons (dCall 2 den__law_draw (dCons (dUse 1) (dCons (ret (.int 10)) (dNil)))) (dCons (dCall 2 den__law_draw (dCons (dUse 1) (dCons (dUse 3) (dNil)))) (dNil)))) (dSeq (dIf (dB (dOp pEq (dUse 9) (ret (.int 0)))) (dSeq (dSet 4 (dCall 2 den__law_book (dCons (dUse 1) (dCons (dUse 3) (dNil))))) (dDrop (dMeth "Clerk" "change" 2 den_Clerk__change (dUse 5) (dCons (dUse 4) (dNil))))) (dIf (dB (dOp pEq (dUse 9) (ret (.int 1)))) (dSeq (dSetR (dUse 6) (dUse 7) (dTup (dNil))) (dDrop (dMeth "Clerk" "lost" 2 den_Clerk__lost (dUse 5) (dCons (dUse 7) (dNil))))) (dSeq (dSetR (dUse 6) (dUse 7) (dOp pAdd (dOp pIx (dUse 6) (dUse 7)) (dTup (dCons (dIfE (dB (dOp pGt (dUse 9) (ret (.int 4)))) (ret (.int 0)) (ret (.int 1))) (dNil))))) (dDrop (dMeth "Clerk" "write" 3 den_Clerk__write (dUse 5) (dCons (dUse 7) (dCons (dOp pIx (dOp pIx (dUse 6) (dUse 7)) (dUn pNeg (ret (.int 1)))) (dNil)))))))) (dSeq (dSet 10 (dFrz (dComp (dRng1 (dCons (ret (.int 2)) (dNil))) [11] (gSet 11) (dB (dOp pGe (dCall 1 den__law_least (dCons (dCall 4 den__law_sums (dCons (dUse 4) (dCons (ret (.bl false)) (dCons (dFn fTuple (dCons (dUse 6) (dNil))) (dCons (dUse 11) (dNil)))))) (dNil))) (dOp pIx (dUse 2) (ret (.int 1))))) (dUse 11)))) (dIf (dOrT (dB (dOp pNe (dMeth "Clerk" "done" 1 den_Clerk__done (dUse 5) dNil) (dFn fTuple (dCons (dUse 10) (dNil))))) (dB (dOp pNe (dCall 4 den_done (dCons (dUse 2) (dCons (dUse 4) (dCons (ret (.bl false)) (dCons (dMeth "Clerk" "weaving" 1 den_Clerk__weaving (dUse 5) dNil) (dNil)))))) (dFn fTuple (dCons (dUse 10) (dNil)))))) (dRet (ret (.bl false))) (nxt)))))) (dSeq (dSet 12 (dCall 4 den__law_anew (dCons (dUse 1) (dCons (dUse 2) (dCons (dUse 4) (dCons (dUse 6) (dNil))))))) (dRet (dAndV (dOp pEq (dUse 12) (dTup (dCons (dMeth "Clerk" "done" 1 den_Clerk__done (dUse 5) dNil) (dCons (dMeth "Clerk" "weaving" 1 den_Clerk__weaving (dUse 5) dNil) (dCons (dMeth "Clerk" "done" 1 den_Clerk__done (dUse 5) dNil) (dNil)))))) (dOp pEq (dMeth "Clerk" "weaving" 1 den_Clerk__weaving (dUse 5) dNil) (dFn fTuple (dCons (dUse 6) (dNil))))))))))))
@[irreducible] noncomputable def den_law : List PV → Stt → Res := runD 13 1 body_law
end FS
set_option Elab.async false
set_option linter.all false
set_option pp.maxSteps 700
set_option maxRecDepth 100000
set_option maxHeartbeats 8000000
namespace FS
open PySem L2
namespace I
section
local macro_rules | `(tactic| walk_at "okm") => `(tactic| first | (exact okMul_l (by omega)) | (exact okMul_r (by omega)) | decide)
local macro_rules | `(tactic| walk_at "fsW") => `(tactic| first
  | (with_reducible refine wp_useL ?_)
  | (with_reducible refine wp_lenL ?_)
  | (with_reducible refine wp_ixL ?_)
  | (with_reducible refine wp_mthL ?_)
  | ((with_reducible refine wp_gtupC ?_ ?_); exact rfl)
  | ((with_reducible refine wp_gtupZ ?_ ?_); exact rfl))
local macro_rules | `(tactic| walk_at "fsE") => `(tactic| first
  | ((with_reducible show ∃ ys, _ = some (Slot.own ys) ∧ _); refine x_own1 rfl ?_)
  | ((with_reducible refine x_mul ?_ ?_); (walk_at "okm"))
  | ((with_reducible refine x_div ?_ ?_ ?_); omega; omega)
  | ((with_reducible refine x_mod ?_ ?_); omega)
  | ((with_reducible refine x_pow ?_ ?_); decide)
  | ((with_reducible show ∃ k, _ = some (PV.bl k) ∧ _); refine x_chain rfl ?_)
  | ((with_reducible show ∃ n ys, _ = PV.ref n ∧ _ = some (SO.lst ys) ∧ _); refine x_mR rfl rfl ?_)
  | ((with_reducible show ∃ w, pIx _ _ _ = some w ∧ _); refine x_ix rfl ?_)
  | ((with_reducible show ∃ w, fLen _ _ = some w ∧ _); refine x_len rfl ?_)
  | ((with_reducible show ∃ w, fInt _ _ = some w ∧ _); refine x_int rfl ?_)
  | ((with_reducible refine x_isi (w := .bl true) ?_ ?_); exact rfl)
  | ((with_reducible refine x_isi (w := .bl false) ?_ ?_); exact rfl)
  | ((with_reducible show ∃ w, fTuple _ _ = some w ∧ _); refine x_tupf rfl ?_)
  | ((with_reducible show ∃ w, fMin _ _ = some w ∧ _); refine x_minf rfl ?_)
  | ((with_reducible show ∃ w, fMax _ _ = some w ∧ _); refine x_maxf rfl ?_)
  | ((with_reducible show ∃ w, pCut _ _ _ _ = some w ∧ _); refine x_pcut rfl ?_)
  | ((with_reducible show ∃ w, itemsOf _ _ = some w ∧ _); refine x_itm rfl ?_)
  | ((with_reducible show ∃ w, itemsF _ = some w ∧ _); refine x_itF rfl ?_)
  | ((with_reducible show ∃ i, _ = PV.int i ∧ _); refine x_part rfl ?_)
  | ((with_reducible show ∃ p q, _ = [p, q] ∧ _); refine x_par rfl ?_)
  | ((with_reducible show ∃ n xs j m, _ = PV.ref n ∧ _ = PV.int j ∧ _ ∧ _ ∧ _); refine x_setR rfl rfl rfl rfl ?_))
local macro_rules | `(tactic| walk_at "fsR") => `(tactic| first
  | ((with_reducible show Wp _ _ _); (walk_at "fsW"))
  | ((with_reducible show Exists _); (walk_at "fsE"))
  | ((with_reducible show LkS _ _ _); first | refine lks_v rfl ?_ | refine lks_o rfl ?_)
  | ((with_reducible show _ ≤ sizeLine ∧ _); refine x_low rfl ?_)
  | ((with_reducible show List.length _ = _ ∧ _); refine x_num rfl ?_))
local macro_rules | `(tactic| walk_at "fs1") => `(tactic| first | (with_reducible refine run1 ?_) | (walk_at "fsR"))
local macro_rules | `(tactic| walk_at "fs0") => `(tactic| first | (with_reducible refine stp1 ?_) | (walk_at "fsR"))
local macro_rules | `(tactic| walk_at "fs") => `(tactic| repeat (walk_at "fs1"))
local macro_rules | `(tactic| walk_at "fsp") => `(tactic| (with_reducible refine x_spl ?_ ?_) <;> (intro h; first | (simp only [Bool.not_true, Bool.not_false, reduceCtorEq, decide_eq_true_eq, decide_eq_false_iff_not, Bool.not_eq_true', Bool.not_eq_false', Bool.and_eq_true, Int.not_lt, Int.not_le, Bool.or_eq_true, Bool.and_eq_false_iff, Bool.or_eq_false_iff, Bool.false_and, Bool.true_and, Bool.or_false, Bool.false_or, beq_self_eq_true, Bool.true_or, List.isEmpty_nil, List.isEmpty_cons] at h) | skip))
local macro_rules | `(tactic| walk_at "fss") => `(tactic| repeat' (first | (walk_at "fs1") | (walk_at "fsp")))
section
variable {rT : Stt}
/-- the pool: its ints, its own list, and what lies behind -/
def Pool (rT S : Stt) : Prop := ∃ (a b : Int) (ns : List Int), S = .lst (ns.map PV.int) :: .lst [.int a, .int b, .ref 0] :: rT ∧ 0 ≤ a
theorem fn_pool (ns : List Int) : Fn (den__law_pool [.scr ns] []) (fun p S => p = .ref 1 ∧ Pool [] S) noR := by
  unfold den__law_pool
  with_reducible refine fn_run ?_ ?_
  exact rfl
  unfold body__law_pool
  walk_at "fss"
  · cases ns with
    | nil => simp at *
    | cons n ns =>
      refine x_ix (w := .int n) (by show (atI (n :: ns) 0).map PV.int = _; rw [atI_zero]; rfl) ?_
      walk_at "fss"
      all_goals exact ⟨rfl, _, _, _, rfl, by omega⟩
  all_goals exact ⟨rfl, _, _, _, rfl, by omega⟩
theorem fn_draw (S : Stt) (h : Pool rT S) (many : Int) (h0 : 0 < many) (h1 : many < 1000000000000000000000) : Fn (den__law_draw [.ref 1, .int many] S) (fun p S => Pool rT S ∧ ∃ v, p = .int v ∧ 0 ≤ v ∧ v < many) noR := by
  obtain ⟨a, b, ns, rfl, ha⟩ := h
  have hm := fun a => Int.emod_nonneg a (Int.ne_of_gt h0)
  have hm2 := fun a => Int.emod_lt_of_pos a h0
  have hd := fun a h => Int.ediv_nonneg (a := a) (b := many) h (Int.le_of_lt h0)
  have hn : ∀ b r, pNe (.lst (ns.map PV.int) :: .lst [.int a, .int b, .ref 0] :: r) (.ref 0) (.lst []) = some (.bl (!ns.isEmpty)) := fun b r => by
    show (if (okd 60 (.lst (ns.map PV.int)) && _ && _ && _) = true then some (PV.bl (!eqv (.lst (ns.map PV.int)) (.lst []))) else none) = _
    rw [okd_ints, eqv_nil]
    rfl
  unfold den__law_draw
  with_reducible refine fn_run ?_ ?_
  exact rfl
  unfold body__law_draw
  walk_at "fss"
  · refine ⟨_, hn _ _, ?_⟩
    cases ns with
    | nil =>
      walk_at "fss"
      all_goals first | omega | exact ⟨⟨_, _, [], rfl, by first | omega | exact hd _ (by omega)⟩, _, rfl, hm _, hm2 _⟩
    | cons n ns =>
      walk_at "fss"
      · refine x_mf rfl pop0 ?_
        walk_at "fss"
        all_goals exact ⟨⟨_, _, ns, rfl, by first | omega | exact hd _ (by omega)⟩, _, rfl, hm _, hm2 _⟩
      all_goals exact absurd ‹(n :: ns).isEmpty = true› Bool.false_ne_true
  all_goals exact ⟨⟨_, _, ns, rfl, by first | omega | exact hd _ (by omega)⟩, _, rfl, hm _, hm2 _⟩
theorem go_draw {S : Stt} {many : Int} {Q : PV → Stt → Prop} {R : Str → PV → Stt → Prop} (h : Pool rT S) (h0 : 0 < many) (h1 : many < 1000000000000000000000) (k : ∀ S' v, Pool rT S' → 0 ≤ v → v < many → Q (.int v) S') : Fn (den__law_draw [.ref 1, .int many] S) Q R :=
  Fn.mono (fn_draw S h many h0 h1) (fun p s ⟨a, v, e, b, c⟩ => e ▸ k s v a b c) fun _ _ _ h => h.elim
end
section
variable {rT : Stt}
theorem fn_pick (S : Stt) (h : Pool rT S) (xs : List PV) (hx : xs ≠ []) (hl : xs.length < 1000000) : Fn (den__law_pick [.ref 1, .lst xs] S) (fun p S => Pool rT S ∧ p ∈ xs) noR := by
  unfold den__law_pick
  with_reducible refine fn_run ?_ ?_
  exact rfl
  unfold body__law_pick
  walk_at "fss"
  have h0 : 0 < xs.length := List.length_pos_iff.mpr hx
  refine no_implicit_lambda% (Fn.mono (fn_draw _ h _ (by omega) (by omega)) (fun p s ⟨h1, v, e, h2, h3⟩ => ?_) fun _ _ _ h => h)
  subst e
  obtain ⟨x, m, e⟩ := atI_of h2 h3
  exact ⟨x, e, h1, m⟩
theorem go_pick {S : Stt} {xs : List PV} {Q : PV → Stt → Prop} {R : Str → PV → Stt → Prop} (h : Pool rT S) (h0 : xs ≠ []) (h1 : xs.length < 1000000) (k : ∀ S' p, Pool rT S' → p ∈ xs → Q p S') : Fn (den__law_pick [.ref 1, .lst xs] S) Q R :=
  Fn.mono (fn_pick S h xs h0 h1) (fun p s ⟨a, b⟩ => k s p a b) fun _ _ _ h => h.elim
end
theorem fn_is_whole (S : Stt) (p : PV) (lo hi : Int) (h : Th p) : Fn (den_is_whole [p, .int lo, .int hi] S) (fun q s => s = S ∧ q = .bl (isW lo hi p)) noR := by
  unfold den_is_whole
  with_reducible refine fn_run ?_ ?_
  exact rfl
  unfold body_is_whole
  rcases h with ⟨n, rfl⟩ | ⟨b, rfl⟩ | rfl | ⟨x, rfl⟩ | ⟨xs, rfl⟩
  · walk_at "fss"
    all_goals refine ⟨rfl, ?_⟩
    all_goals refine congrArg PV.bl ?_
    all_goals simp only [isW]
    all_goals first | (rw [decide_eq_true (by omega : lo ≤ n)]; rfl) | (rw [decide_eq_false (by omega : ¬ lo ≤ n)]; rfl)
  all_goals walk_at "fss"
  all_goals exact ⟨rfl, rfl⟩
theorem fn_is_prime (S : Stt) (p : PV) (h : Th p) : Fn (den_is_prime [p] S) (fun q s => s = S ∧ q = .bl (isP p)) noR := by
  unfold den_is_prime
  with_reducible refine fn_run ?_ ?_
  exact rfl
  unfold body_is_prime
  walk_at "fss"
  refine no_implicit_lambda% (Fn.mono (fn_is_whole S p 2 65521 h) (fun q s h1 => ?_) fun _ _ _ h => h)
  obtain ⟨rfl, rfl⟩ := h1
  walk_at "fss"
  · rename_i hw
    refine ⟨rfl, ?_⟩
    cases p with
    | int n =>
      have : ¬ prm n := fun z => by simp [isW, z.1, z.2.1] at hw
      simp [isP, this]
    | _ => rfl
  · rename_i hw
    cases p with
    | int n =>
      simp only [isW, Bool.and_eq_true, decide_eq_true_eq] at hw
      refine wp_while (fun e s' => s' = s ∧ ∃ d, e = [.val (.int n), .val (.int d)] ∧ 2 ≤ d ∧ d ≤ n ∧ ∀ k, 2 ≤ k → k < d → n % k ≠ 0) (fun e s => match e with | [_, .val (.int d)] => (n - d).toNat | _ => 0) ⟨rfl, 2, rfl, by omega, by omega, fun k h1 h2 => by omega⟩ ?_
      intro e s' ⟨e1, d, e2, h1, h2, h3⟩
      subst e1 e2
      walk_at "fss"
      · rename_i hk
        refine ⟨rfl, ?_⟩
        have : ¬ prm n := fun z => z.2.2 d h1 ‹d * d ≤ n› hk
        simp [isP, this]
      · rename_i hd _
        have hq := sq_ge h1
        refine ⟨⟨rfl, d + 1, rfl, by omega, by omega, fun k q1 q2 => ?_⟩, ?_⟩
        · by_cases q : k = d
          · subst q
            assumption
          · exact h3 k q1 (by omega)
        · show (n - (d + 1)).toNat < (n - d).toNat
          omega
      · rename_i hd
        refine ⟨rfl, ?_⟩
        have : prm n := ⟨hw.1, hw.2, fun k q1 q2 => h3 k q1 (by
          rcases Int.lt_or_le k d with q | q
          · exact q
          · have := sq_le (by omega) q
            omega)⟩
        simp [isP, this]
    | _ => cases hw
/-! grounds -/
structure Gnd (p k : Int) (xs : List Int) : Prop where
  pr : prm p
  k1 : 1 ≤ k
  k2 : k ≤ 12
  n1 : 1 ≤ xs.length
  n2 : xs.length ≤ 8
  rg : ∀ x ∈ xs, 0 ≤ x ∧ x ≤ p
  nd : xs.Nodup
def iL (xs : List Int) : List PV := xs.map PV.int
abbrev tupI (xs : List Int) : PV := .tup (iL xs)
abbrev gv (p k : Int) (xs : List Int) : PV := .tup [.int p, .int k, tupI xs]
theorem ints_len (xs : List Int) : (iL xs).length = xs.length := List.length_map ..
theorem ints_get {xs : List Int} {i : Nat} {x : Int} (h : xs[i]? = some x) : (iL xs)[i]? = some (.int x) := by
  unfold iL
  rw [List.getElem?_map, h]
  rfl
theorem ints_at {xs : List Int} {i : Nat} {x : Int} (h : xs[i]? = some x) : atI (iL xs) (i : Int) = some (.int x) := atI_nat (ints_get h)
theorem ints_take (xs : List Int) (n : Nat) : (iL xs).take n = iL (xs.take n) := by
  unfold iL
  rw [List.map_take]
theorem okd_intsT (k : Nat) (xs : List Int) : okd (k + 1) (tupI xs) = true := by
  show (xs.map PV.int).all (okd k) = true
  rw [List.all_map]
  exact List.all_eq_true.mpr fun _ _ => by cases k <;> rfl
theorem any_ints (y : Int) : ∀ xs : List Int, (iL xs).any (fun z => eqv z (.int y)) = decide (y ∈ xs)
  | [] => rfl
  | x :: xs => by
    show (eqv (.int x) (.int y) || (iL xs).any _) = _
    rw [any_ints y xs, eqv_int]
    by_cases h : y = x
    · subst h
      simp
    · have h2 : ¬ x = y := fun e => h e.symm
      simp [h, h2]
theorem in_ints (S : Stt) (y : Int) (xs : List Int) : pInA S (.int y) (tupI xs) = some (.bl (decide (y ∈ xs))) := by
  show (pIn S (.int y) (tupI xs)).or (if (okd 60 (.int y) && okd 60 (tupI xs)) = true then some (.bl ((iL xs).any fun z => eqv z (.int y))) else none) = _
  rw [okd_intsT, any_ints]
  rfl
theorem fn_are_points (S : Stt) (p : Int) (xs : List Int) (hp : 0 ≤ p) (h1 : 1 ≤ xs.length) (h2 : xs.length ≤ 8) (hr : ∀ x ∈ xs, 0 ≤ x ∧ x ≤ p) (hn : xs.Nodup) : Fn (den_are_points [.int p, tupI xs] S) (fun q s => s = S ∧ q = .bl true) noR := by
  have hl := ints_len xs
  unfold den_are_points
  with_reducible refine fn_run ?_ ?_
  exact rfl
  unfold body_are_points
  walk_at "fss"
  · omega
  rotate_left
  · omega
  · with_reducible refine wp_for ?_
    walk_at "fss"
    refine x_rng1 (by omega) (by omega) ?_
    rw [hl, Int.toNat_natCast]
    refine ⟨fun i e s => s = S ∧ ∃ x, e = [.val (.int p), .val (tupI xs), x], ⟨rfl, _, rfl⟩, fun i t e s hi ⟨e1, x, e2⟩ => ?_, fun e s ⟨e1, x, e2⟩ => ?_⟩
    · obtain ⟨hj, rfl⟩ := rng_get _ _ _ _ hi
      subst e1 e2
      have hx : xs[i]? = some xs[i] := List.getElem?_eq_getElem hj
      walk_at "fss"
      refine x_ix (ints_at hx) ?_
      walk_at "fss"
      refine no_implicit_lambda% (Fn.mono (fn_is_whole s (.int xs[i]) 0 p (.inl ⟨_, rfl⟩)) (fun q s' ⟨e1, e2⟩ => ?_) fun _ _ _ h => h.elim)
      subst e1 e2
      have hw : isW 0 p (.int xs[i]) = true := by
        obtain ⟨q1, q2⟩ := hr xs[i] (List.getElem_mem hj)
        simp [isW, q1, q2]
      rw [hw]
      walk_at "fss"
      refine x_ix (ints_at hx) ?_
      walk_at "fss"
      rw [cut_to, ints_take]
      have hni : ¬ xs[i] ∈ xs.take i := fun hm => by
        obtain ⟨k, hk, he⟩ := List.getElem_of_mem hm
        rw [List.getElem_take] at he
        have hk2 : k < i := by
          rw [List.length_take] at hk
          omega
        exact (List.pairwise_iff_getElem.mp hn) k i (by omega) hj hk2 he
      refine ⟨_, in_ints _ _ _, ?_⟩
      rw [decide_eq_false hni]
      walk_at "fss"
      exact ⟨rfl, _, rfl⟩
    · subst e1 e2
      walk_at "fss"
      exact ⟨rfl, rfl⟩
theorem fn_made_ground (S : Stt) (p k : Int) (xs : List Int) (h : Gnd p k xs) : Fn (den_made_ground [gv p k xs] S) (fun q s => s = S ∧ q = gv p k xs) noR := by
  have hp : isP (.int p) = true := by simp [isP, h.pr]
  have hp1 := h.pr.1
  unfold den_made_ground
  with_reducible refine fn_run ?_ ?_
  exact rfl
  unfold body_made_ground
  walk_at "fss"
  · exact absurd rfl ‹¬ (([PV.int p, PV.int k, tupI xs].length : Nat) : Int) = 3›
  refine no_implicit_lambda% (Fn.mono (fn_is_prime S (.int p) (.inl ⟨_, rfl⟩)) (fun q s' ⟨e1, e2⟩ => ?_) fun _ _ _ h => h.elim)
  subst e1 e2
  rw [hp]
  walk_at "fss"
  refine no_implicit_lambda% (Fn.mono (fn_is_whole s' (.int k) 1 12 (.inl ⟨_, rfl⟩)) (fun q s' ⟨e1, e2⟩ => ?_) fun _ _ _ h => h.elim)
  subst e1 e2
  rw [show isW 1 12 (.int k) = true by simp [isW, h.k1, h.k2]]
  walk_at "fss"
  refine no_implicit_lambda% (Fn.mono (fn_are_points s' p xs (by omega) h.n1 h.n2 h.rg h.nd) (fun q s' ⟨e1, e2⟩ => ?_) fun _ _ _ h => h.elim)
  subst e1 e2
  walk_at "fss"
  exact ⟨rfl, rfl⟩
end
end I
end FS
set_option Elab.async false
set_option linter.all false
set_option pp.maxSteps 700
set_option maxRecDepth 100000
set_option maxHeartbeats 8000000
namespace FS
open PySem L2
namespace I
section
local macro_rules | `(tactic| walk_at "okm") => `(tactic| first | (exact okMul_l (by omega)) | (exact okMul_r (by omega)) | decide)
local macro_rules | `(tactic| walk_at "fsW") => `(tactic| first
  | (with_reducible refine wp_useL ?_)
  | (with_reducible refine wp_lenL ?_)
  | (with_reducible refine wp_ixL ?_)
  | (with_reducible refine wp_mthL ?_)
  | ((with_reducible refine wp_gtupC ?_ ?_); exact rfl)
  | ((with_reducible refine wp_gtupZ ?_ ?_); exact rfl))
local macro_rules | `(tactic| walk_at "fsE") => `(tactic| first
  | ((with_reducible show ∃ ys, _ = some (Slot.own ys) ∧ _); refine x_own1 rfl ?_)
  | ((with_reducible refine x_mul ?_ ?_); (walk_at "okm"))
  | ((with_reducible refine x_div ?_ ?_ ?_); omega; omega)
  | ((with_reducible refine x_mod ?_ ?_); omega)
  | ((with_reducible refine x_pow ?_ ?_); decide)
  | ((with_reducible show ∃ k, _ = some (PV.bl k) ∧ _); refine x_chain rfl ?_)
  | ((with_reducible show ∃ n ys, _ = PV.ref n ∧ _ = some (SO.lst ys) ∧ _); refine x_mR rfl rfl ?_)
  | ((with_reducible show ∃ w, pIx _ _ _ = some w ∧ _); refine x_ix rfl ?_)
  | ((with_reducible show ∃ w, fLen _ _ = some w ∧ _); refine x_len rfl ?_)
  | ((with_reducible show ∃ w, fInt _ _ = some w ∧ _); refine x_int rfl ?_)
  | ((with_reducible refine x_isi (w := .bl true) ?_ ?_); exact rfl)
  | ((with_reducible refine x_isi (w := .bl false) ?_ ?_); exact rfl)
  | ((with_reducible show ∃ w, fTuple _ _ = some w ∧ _); refine x_tupf rfl ?_)
  | ((with_reducible show ∃ w, fMin _ _ = some w ∧ _); refine x_minf rfl ?_)
  | ((with_reducible show ∃ w, fMax _ _ = some w ∧ _); refine x_maxf rfl ?_)
  | ((with_reducible show ∃ w, pCut _ _ _ _ = some w ∧ _); refine x_pcut rfl ?_)
  | ((with_reducible show ∃ w, itemsOf _ _ = some w ∧ _); refine x_itm rfl ?_)
  | ((with_reducible show ∃ w, itemsF _ = some w ∧ _); refine x_itF rfl ?_)
  | ((with_reducible show ∃ i, _ = PV.int i ∧ _); refine x_part rfl ?_)
  | ((with_reducible show ∃ p q, _ = [p, q] ∧ _); refine x_par rfl ?_)
  | ((with_reducible show ∃ n xs j m, _ = PV.ref n ∧ _ = PV.int j ∧ _ ∧ _ ∧ _); refine x_setR rfl rfl rfl rfl ?_))
local macro_rules | `(tactic| walk_at "fsR") => `(tactic| first
  | ((with_reducible show Wp _ _ _); (walk_at "fsW"))
  | ((with_reducible show Exists _); (walk_at "fsE"))
  | ((with_reducible show LkS _ _ _); first | refine lks_v rfl ?_ | refine lks_o rfl ?_)
  | ((with_reducible show _ ≤ sizeLine ∧ _); refine x_low rfl ?_)
  | ((with_reducible show List.length _ = _ ∧ _); refine x_num rfl ?_))
local macro_rules | `(tactic| walk_at "fs1") => `(tactic| first | (with_reducible refine run1 ?_) | (walk_at "fsR"))
local macro_rules | `(tactic| walk_at "fs0") => `(tactic| first | (with_reducible refine stp1 ?_) | (walk_at "fsR"))
local macro_rules | `(tactic| walk_at "fs") => `(tactic| repeat (walk_at "fs1"))
local macro_rules | `(tactic| walk_at "fsp") => `(tactic| (with_reducible refine x_spl ?_ ?_) <;> (intro h; first | (simp only [Bool.not_true, Bool.not_false, reduceCtorEq, decide_eq_true_eq, decide_eq_false_iff_not, Bool.not_eq_true', Bool.not_eq_false', Bool.and_eq_true, Int.not_lt, Int.not_le, Bool.or_eq_true, Bool.and_eq_false_iff, Bool.or_eq_false_iff, Bool.false_and, Bool.true_and, Bool.or_false, Bool.false_or, beq_self_eq_true, Bool.true_or, List.isEmpty_nil, List.isEmpty_cons] at h) | skip))
local macro_rules | `(tactic| walk_at "fss") => `(tactic| repeat' (first | (walk_at "fs1") | (walk_at "fsp")))
local macro_rules | `(tactic| walk_at "fd1") => `(tactic| first
  | ((with_reducible apply go_draw); assumption; (first | omega | decide); (first | omega | decide); intro s' v hp hv0 hv1)
  | (walk_at "fs1") | (walk_at "fsp"))
local macro_rules | `(tactic| walk_at "fdi1") => `(tactic| first
  | ((with_reducible apply go_draw); assumption; (first | omega | decide); (first | omega | decide); intro s' v hp hv0 hv1)
  | (walk_at "fs0") | (walk_at "fsp"))
local macro_rules | `(tactic| walk_at "fd") => `(tactic| repeat' (walk_at "fd1"))
local macro_rules | `(tactic| walk_at "fdi") => `(tactic| repeat' ((fail_if_success (with_reducible show Wp (dSeq (dIf _ _ _) _ _ _) _ _)); (walk_at "fdi1")))
section
variable {rT : Stt}
/-! rows of cells -/
theorem app_ok {xs : List PV} {p : PV} (h : xs.length < sizeLine) : mAppend xs [p] = some (.non, xs ++ [p]) := by
  show (if xs.length < sizeLine then some (PV.non, xs ++ [p]) else none) = _
  rw [if_pos h]
theorem small_line {n : Nat} (h : n < 100000) : n < sizeLine := Nat.lt_trans h (by decide)
theorem iL_app (xs ys : List Int) : iL xs ++ iL ys = iL (xs ++ ys) := by
  unfold iL
  rw [List.map_append]
theorem iL_get {xs : List Int} {i : Nat} {p : PV} (h : (iL xs)[i]? = some p) : ∃ x, xs[i]? = some x ∧ p = .int x := by
  unfold iL at h
  rw [List.getElem?_map] at h
  cases q : xs[i]? with
  | none => rw [q] at h; cases h
  | some x =>
    rw [q] at h
    exact ⟨x, rfl, (Option.some.inj h).symm⟩
theorem take_next {α : Type} {xs : List α} {m : Nat} {a : α} (h : xs[m]? = some a) : xs.take (m + 1) = xs.take m ++ [a] := by
  rw [List.take_succ, h]
  rfl
end
section
variable {rT : Stt}
/-! the law's grounds -/
theorem pop_at {xs : List PV} {i : Nat} {p : PV} (h : xs[i]? = some p) (hi : i < 1000000) : mPopAt xs [.int i] = some (p, xs.eraseIdx i) := by
  have hl : i < xs.length := (List.getElem?_eq_some_iff.mp h).1
  unfold mPopAt
  simp only []
  rw [if_pos (by omega), ixN_nat hl]
  simp only [h, Option.map_some]
theorem iL_erase : ∀ (xs : List Int) (i : Nat), (iL xs).eraseIdx i = iL (xs.eraseIdx i)
  | [], i => by cases i <;> rfl
  | x :: xs, 0 => rfl
  | x :: xs, i + 1 => by
    show PV.int x :: (iL xs).eraseIdx i = PV.int x :: iL (xs.eraseIdx i)
    rw [iL_erase xs i]
def rgI (n : Nat) : List Int := (List.range n).map fun (i : Nat) => (i : Int)
theorem rgI_iL (n : Nat) : ((List.range n).map fun (i : Nat) => PV.int i) = iL (rgI n) := by
  unfold iL rgI
  rw [List.map_map]
  rfl
theorem rgI_nd (n : Nat) : (rgI n).Nodup := by
  unfold rgI
  refine List.pairwise_map.mpr (List.Pairwise.imp (fun {a b} h e => h ?_) List.nodup_range)
  exact Int.ofNat.inj e
theorem rgI_mem {n : Nat} {x : Int} (h : x ∈ rgI n) : 0 ≤ x ∧ x < n := by
  unfold rgI at h
  obtain ⟨i, hi, rfl⟩ := List.mem_map.mp h
  have := List.mem_range.mp hi
  omega
theorem erase_perm : ∀ (l : List Int) (i : Nat) (h : i < l.length), (l[i] :: l.eraseIdx i).Perm l
  | x :: l, 0, _ => List.Perm.refl _
  | x :: l, i + 1, h => (List.Perm.swap ..).trans ((erase_perm l i (by simpa using h)).cons x)
theorem fn_turnedP (S : Stt) (h : Pool rT S) (n : Nat) (hn : n < 1000) : Fn (den__law_turned [.ref 1, .int n] S) (fun q s => Pool rT s ∧ ∃ l : List Int, q = .lst (iL l) ∧ l.Perm (rgI n)) noR := by
  unfold den__law_turned
  with_reducible refine fn_run ?_ ?_
  exact rfl
  unfold body__law_turned
  walk_at "fd"
  refine ⟨n, rfl, ⟨by unfold okR; simp; omega, by omega⟩, ?_⟩
  walk_at "fd"
  with_reducible refine wp_for ?_
  walk_at "fd"
  refine x_rng1 (by omega) (by omega) ?_
  rw [Int.toNat_natCast]
  refine ⟨fun t e s => Pool rT s ∧ ∃ (lf fd : List Int) (x : Slot), e = [.val (.ref 1), .val (.int n), .own (iL lf), .own (iL fd), x] ∧ (lf ++ fd).Perm (rgI n) ∧ fd.length = t, ⟨h, rgI n, [], _, by rw [← rgI_iL]; rfl, by rw [List.append_nil], rfl⟩, fun t q e s hi ⟨hP, lf, fd, x, e2, hp, hl⟩ => ?_, fun e s ⟨hP, lf, fd, x, e2, hp, hl⟩ => ?_⟩
  · obtain ⟨hj, rfl⟩ := rng_get _ _ _ _ hi
    have hlen := hp.length_eq
    have hrl : (rgI n).length = n := by simp [rgI]
    rw [List.length_append, hrl] at hlen
    have hl2 := ints_len lf
    subst e2
    walk_at "fd"
    rename_i s' v hP' hv0 hv1
    obtain ⟨i, rfl⟩ : ∃ i : Nat, v = i := ⟨v.toNat, by omega⟩
    have hi2 : i < lf.length := by omega
    refine x_mfO rfl (pop_at (ints_get (List.getElem?_eq_getElem hi2)) (by omega)) ?_
    walk_at "fd"
    refine x_mfO rfl (app_ok (small_line (by rw [ints_len]; omega))) ?_
    walk_at "fd"
    refine ⟨hP', lf.eraseIdx i, fd ++ [lf[i]], _, (by rw [iL_erase, ← iL_app]; rfl), ?_, by simp [hl]⟩
    have hpe : (lf[i] :: lf.eraseIdx i).Perm lf := erase_perm lf i hi2
    refine List.Perm.trans ?_ hp
    refine List.Perm.trans ?_ (hpe.append_right fd)
    rw [← List.append_assoc]
    exact List.perm_append_comm.trans (List.Perm.refl _)
  · subst e2
    rw [List.length_map, List.length_range] at hl
    walk_at "fd"
    have hlen := hp.length_eq
    have hrl : (rgI n).length = n := by simp [rgI]
    rw [List.length_append, hrl] at hlen
    have h0 : lf = [] := List.length_eq_zero_iff.mp (by omega)
    subst h0
    exact ⟨hP, fd, rfl, hp⟩
theorem fn_turned (S : Stt) (h : Pool rT S) (n : Nat) (hn : n < 1000) : Fn (den__law_turned [.ref 1, .int n] S) (fun q s => Pool rT s ∧ ∃ l : List Int, q = .lst (iL l) ∧ l.length = n ∧ l.Nodup ∧ ∀ x ∈ l, 0 ≤ x ∧ x < n) noR :=
  Fn.mono (fn_turnedP S h n hn) (fun q s ⟨hP, l, e, hp⟩ => ⟨hP, l, e, by rw [hp.length_eq]; simp [rgI], (hp.nodup_iff).mpr (rgI_nd n), fun x hx => rgI_mem (hp.mem_iff.mp hx)⟩) fun _ _ _ h => h
theorem nodup_set {l : List Int} {a : Int} (hn : l.Nodup) (ha : a ∉ l) (i : Nat) : (l.set i a).Nodup := by
  refine List.pairwise_iff_getElem.mpr fun u v hu hv huv => ?_
  have hu' : u < l.length := by simpa using hu
  have hv' : v < l.length := by simpa using hv
  rw [List.getElem_set, List.getElem_set]
  split
  · split
    · omega
    · exact fun e => ha (e ▸ List.getElem_mem hv')
  · split
    · exact fun e => ha (e ▸ List.getElem_mem hu')
    · exact (List.pairwise_iff_getElem.mp hn) u v hu' hv' huv
theorem notIn_own (y : Int) (xs : List Int) : inL true (.int y) (iL xs) = some (.bl (!decide (y ∈ xs))) := by
  show (if (okd 60 (.int y) && okd 60 (.lst (iL xs))) = true then some (PV.bl (!(iL xs).any fun z => eqv z (.int y))) else none) = _
  rw [any_ints, show okd 60 (.lst (iL xs)) = true from okd_ints xs]
  rfl
theorem iL_set (xs : List Int) (i : Nat) (a : Int) : (iL xs).set i (.int a) = iL (xs.set i a) := by
  unfold iL
  rw [List.map_set]
def grp (p B g : Int) (c : Nat) : List Int := (List.range c).map fun (i : Nat) => (B + i * g) % (p + 1)
theorem grp_next (p B g : Int) (c : Nat) : iL (grp p B g (c + 1)) = iL (grp p B g c) ++ [.int ((B + c * g) % (p + 1))] := by
  unfold grp
  rw [List.range_succ, List.map_append, ← iL_app]
  rfl
theorem grp_nd {p B g : Int} {c : Nat} (hp : 0 < p + 1) (hg0 : 1 ≤ g) (hg : 8 * g ≤ p + 1) (hc : c ≤ 8) : (grp p B g c).Nodup := by
  unfold grp
  refine List.pairwise_map.mpr (List.Pairwise.imp_of_mem (fun {a b} ha hb h e => ?_) List.nodup_range)
  have ha := List.mem_range.mp ha
  have hb := List.mem_range.mp hb
  have key : ∀ a b : Nat, a < b → b < 8 → (B + a * g) % (p + 1) ≠ (B + b * g) % (p + 1) := fun a b hab hb8 e => by
    have h1 := Int.emod_eq_emod_iff_emod_sub_eq_zero.mp e.symm
    have h2 : (B + b * g) - (B + a * g) = ((b - a : Nat) : Int) * g := by
      have : ((b - a : Nat) : Int) = (b : Int) - a := by omega
      rw [this, Int.sub_mul]
      omega
    rw [h2] at h1
    have h3 : p + 1 ∣ ((b - a : Nat) : Int) * g := Int.dvd_of_emod_eq_zero h1
    have h4 : 1 ≤ ((b - a : Nat) : Int) := by omega
    have h5 : 1 * g ≤ ((b - a : Nat) : Int) * g := Int.mul_le_mul_of_nonneg_right h4 (by omega)
    have h6 := Int.le_of_dvd (by omega) h3
    have h7 : ((b - a : Nat) : Int) * g ≤ 7 * g := Int.mul_le_mul_of_nonneg_right (by omega) (by omega)
    omega
  rcases Nat.lt_or_gt_of_ne h with q | q
  · exact key a b q (by omega) e
  · exact key b a q (by omega) e.symm
theorem gprimes : ∀ p ∈ [(2 : Int), 3, 5, 7, 11, 13, 32749, 65521], prm p ∧ (p < 16 ∨ 32749 ≤ p) := by
  intro p hp
  simp only [List.mem_cons, List.not_mem_nil, or_false] at hp
  rcases hp with rfl | rfl | rfl | rfl | rfl | rfl | rfl | rfl
  all_goals exact ⟨prm_of (by decide) (by decide +kernel), by decide⟩
theorem fn_law_ground (S : Stt) (h : Pool rT S) (most many : Nat) (hm1 : 1 ≤ most) (hm2 : most ≤ 12) (hn1 : 1 ≤ many) (hn2 : many ≤ 8) : Fn (den__law_ground [.ref 1, .int most, .int many] S)
    (fun q s => Pool rT s ∧ ∃ p k xs, q = gv p k xs ∧ Gnd p k xs ∧ k ≤ most ∧ xs.length ≤ many ∧ p ∈ [(2 : Int), 3, 5, 7, 11, 13, 32749, 65521]) noR := by
  unfold den__law_ground
  with_reducible refine fn_run ?_ ?_
  exact rfl
  unfold body__law_ground
  walk_at "fd"
  refine no_implicit_lambda% (go_pick h (by simp) (by decide) (fun s p hp hm => ?_))
  have hq : ∃ n, p = .int n ∧ n ∈ [(2 : Int), 3, 5, 7, 11, 13, 32749, 65521] := by
    simp only [List.mem_cons, List.not_mem_nil, or_false] at hm
    rcases hm with rfl | rfl | rfl | rfl | rfl | rfl | rfl | rfl | rfl | rfl | rfl | rfl <;> exact ⟨_, rfl, by decide⟩
  obtain ⟨p, rfl, hpl⟩ := hq
  obtain ⟨hpr, hpc⟩ := gprimes p hpl
  have hp1 := hpr.1
  have hp2 := hpr.2.1
  obtain ⟨n, rfl⟩ : ∃ n : Nat, p = n := ⟨p.toNat, by omega⟩
  walk_at "fdi"
  rename_i s v hp h0 h1
  have h1' : v < many ∧ v < (n : Int) + 1 := by split at h1 <;> omega
  obtain ⟨c, hc⟩ : ∃ c : Nat, 1 + v = c := ⟨(1 + v).toNat, by omega⟩
  rw [hc]
  with_reducible refine wp_seq ?_
  refine no_implicit_lambda% (Wp.mono' (fun f e s => f = .next ∧ Pool rT s ∧ ∃ pts x6 x7, e = [.val (.ref 1), .val (.int most), .val (.int many), .val (.int n), .val (.int c), .own (iL pts), x6, x7, .none] ∧ pts.length = c ∧ (∀ x ∈ pts, 0 ≤ x ∧ x ≤ n) ∧ pts.Nodup) (fun _ _ _ _ => False) ?_ (fun f e s ⟨e1, hp, pts, x6, x7, e2, q1, q2, q3⟩ => ?_) (fun _ _ _ _ h => False.elim h))
  · walk_at "fd"
    · refine no_implicit_lambda% (Fn.mono (fn_turned s hp (n + 1) (by omega)) (fun q s ⟨hP, l, e1, l1, l2, l3⟩ => ?_) fun _ _ _ h => h.elim)
      subst e1
      walk_at "fd"
      refine ⟨_, rfl, rfl, hP, l.take c, _, _, (by rw [cut_to, ints_take]; rfl), by rw [List.length_take]; omega, fun x hx => ?_, ?_⟩
      · have := l3 x (List.mem_of_mem_take hx)
        omega
      · exact l2.sublist (List.take_sublist c l)
    · rename_i s1 B hp1 hB0 hB1 s2 g hp2 hg0 hg1
      have hgn := grp_nd (p := n) (B := B) (g := 1 + g) (c := c) (by omega) (by omega) (by omega) (by omega)
      have hgl : (grp n B (1 + g) c).length = c := by unfold grp; simp
      have hgr : ∀ x ∈ grp n B (1 + g) c, 0 ≤ x ∧ x ≤ n := fun x hx => by
        unfold grp at hx
        obtain ⟨i, hi, rfl⟩ := List.mem_map.mp hx
        have h1 := Int.emod_nonneg (B + i * (1 + g)) (b := (n : Int) + 1) (by omega)
        have h2 := Int.emod_lt_of_pos (B + i * (1 + g)) (b := (n : Int) + 1) (by omega)
        omega
      with_reducible refine wp_comp ?_
      walk_at "fd"
      refine x_rng1 (by omega) (by omega) ?_
      rw [Int.toNat_natCast]
      refine ⟨fun m acc e s => s = s2 ∧ acc = iL (grp n B (1 + g) m) ∧ e = [.val (.ref 1), .val (.int most), .val (.int many), .val (.int n), .val (.int c), .none, .val (.int B), .val (.int (1 + g)), .none], ⟨rfl, rfl, rfl⟩, fun m t acc e s hi ⟨e1, h1, e2⟩ => ?_, fun acc e s ⟨e1, h1, e2⟩ => ?_⟩
      · obtain ⟨hj, rfl⟩ := rng_get _ _ _ _ hi
        subst e1 e2 h1
        walk_at "fd"
        refine ⟨by rw [ints_len]; unfold grp; rw [List.length_map, List.length_range]; exact small_line (by omega), rfl, ?_, rfl⟩
        rw [grp_next]
      · subst e1 e2 h1
        rw [List.length_map, List.length_range]
        walk_at "fd"
        refine .inl ⟨_, _, rfl, notIn_own _ _, ?_⟩
        walk_at "fd"
        · rename_i hni s3 v3 hp3 hv0 hv1 hz s4 v4 hp4 hv40 hv41
          obtain ⟨i, rfl⟩ : ∃ i : Nat, v4 = i := ⟨v4.toNat, by omega⟩
          have hi : i < (grp n B (1 + g) c).length := by omega
          refine x_setO rfl rfl (ixN_nat (by rw [ints_len]; exact hi)) ?_
          refine ⟨rfl, hp4, (grp n B (1 + g) c).set i n, _, _, (by rw [← iL_set]; rfl), by rw [List.length_set]; exact hgl, fun x hx => ?_, nodup_set hgn hni i⟩
          rcases List.mem_or_eq_of_mem_set hx with q | rfl
          · exact hgr x q
          · omega
        · rename_i s3 v3 hp3 hv0 hv1 hz
          exact ⟨rfl, hp3, _, _, _, rfl, hgl, hgr, hgn⟩
        · exact ⟨rfl, hp2, _, _, _, rfl, hgl, hgr, hgn⟩
  · subst e1 e2
    walk_at "fd"
    rename_i s5 k hp5 hk0 hk1
    exact ⟨hp5, n, 1 + k, pts, rfl, ⟨hpr, by omega, by omega, by omega, by omega, q2, q3⟩, by omega, by omega, hpl⟩
end
end
end I
end FS
set_option Elab.async false
set_option linter.all false
set_option pp.maxSteps 700
set_option maxRecDepth 100000
set_option maxHeartbeats 8000000
namespace FS
open PySem L2
namespace I
section
local macro_rules | `(tactic| walk_at "okm") => `(tactic| first | (exact okMul_l (by omega)) | (exact okMul_r (by omega)) | decide)
local macro_rules | `(tactic| walk_at "fsW") => `(tactic| first
  | (with_reducible refine wp_useL ?_)
  | (with_reducible refine wp_lenL ?_)
  | (with_reducible refine wp_ixL ?_)
  | (with_reducible refine wp_mthL ?_)
  | ((with_reducible refine wp_gtupC ?_ ?_); exact rfl)
  | ((with_reducible refine wp_gtupZ ?_ ?_); exact rfl))
local macro_rules | `(tactic| walk_at "fsE") => `(tactic| first
  | ((with_reducible show ∃ ys, _ = some (Slot.own ys) ∧ _); refine x_own1 rfl ?_)
  | ((with_reducible refine x_mul ?_ ?_); (walk_at "okm"))
  | ((with_reducible refine x_div ?_ ?_ ?_); omega; omega)
  | ((with_reducible refine x_mod ?_ ?_); omega)
  | ((with_reducible refine x_pow ?_ ?_); decide)
  | ((with_reducible show ∃ k, _ = some (PV.bl k) ∧ _); refine x_chain rfl ?_)
  | ((with_reducible show ∃ n ys, _ = PV.ref n ∧ _ = some (SO.lst ys) ∧ _); refine x_mR rfl rfl ?_)
  | ((with_reducible show ∃ w, pIx _ _ _ = some w ∧ _); refine x_ix rfl ?_)
  | ((with_reducible show ∃ w, fLen _ _ = some w ∧ _); refine x_len rfl ?_)
  | ((with_reducible show ∃ w, fInt _ _ = some w ∧ _); refine x_int rfl ?_)
  | ((with_reducible refine x_isi (w := .bl true) ?_ ?_); exact rfl)
  | ((with_reducible refine x_isi (w := .bl false) ?_ ?_); exact rfl)
  | ((with_reducible show ∃ w, fTuple _ _ = some w ∧ _); refine x_tupf rfl ?_)
  | ((with_reducible show ∃ w, fMin _ _ = some w ∧ _); refine x_minf rfl ?_)
  | ((with_reducible show ∃ w, fMax _ _ = some w ∧ _); refine x_maxf rfl ?_)
  | ((with_reducible show ∃ w, pCut _ _ _ _ = some w ∧ _); refine x_pcut rfl ?_)
  | ((with_reducible show ∃ w, itemsOf _ _ = some w ∧ _); refine x_itm rfl ?_)
  | ((with_reducible show ∃ w, itemsF _ = some w ∧ _); refine x_itF rfl ?_)
  | ((with_reducible show ∃ i, _ = PV.int i ∧ _); refine x_part rfl ?_)
  | ((with_reducible show ∃ p q, _ = [p, q] ∧ _); refine x_par rfl ?_)
  | ((with_reducible show ∃ n xs j m, _ = PV.ref n ∧ _ = PV.int j ∧ _ ∧ _ ∧ _); refine x_setR rfl rfl rfl rfl ?_))
local macro_rules | `(tactic| walk_at "fsR") => `(tactic| first
  | ((with_reducible show Wp _ _ _); (walk_at "fsW"))
  | ((with_reducible show Exists _); (walk_at "fsE"))
  | ((with_reducible show LkS _ _ _); first | refine lks_v rfl ?_ | refine lks_o rfl ?_)
  | ((with_reducible show _ ≤ sizeLine ∧ _); refine x_low rfl ?_)
  | ((with_reducible show List.length _ = _ ∧ _); refine x_num rfl ?_))
local macro_rules | `(tactic| walk_at "fs1") => `(tactic| first | (with_reducible refine run1 ?_) | (walk_at "fsR"))
local macro_rules | `(tactic| walk_at "fs0") => `(tactic| first | (with_reducible refine stp1 ?_) | (walk_at "fsR"))
local macro_rules | `(tactic| walk_at "fs") => `(tactic| repeat (walk_at "fs1"))
local macro_rules | `(tactic| walk_at "fsp") => `(tactic| (with_reducible refine x_spl ?_ ?_) <;> (intro h; first | (simp only [Bool.not_true, Bool.not_false, reduceCtorEq, decide_eq_true_eq, decide_eq_false_iff_not, Bool.not_eq_true', Bool.not_eq_false', Bool.and_eq_true, Int.not_lt, Int.not_le, Bool.or_eq_true, Bool.and_eq_false_iff, Bool.or_eq_false_iff, Bool.false_and, Bool.true_and, Bool.or_false, Bool.false_or, beq_self_eq_true, Bool.true_or, List.isEmpty_nil, List.isEmpty_cons] at h) | skip))
local macro_rules | `(tactic| walk_at "fss") => `(tactic| repeat' (first | (walk_at "fs1") | (walk_at "fsp")))
/-! plain data -/
mutual
def thb : PV → Bool
  | .non => true
  | .bl _ => true
  | .int _ => true
  | .str _ => true
  | .tup xs => thbs xs
  | _ => false
def thbs : List PV → Bool
  | [] => true
  | x :: xs => thb x && thbs xs
end
theorem thbs_mem : ∀ {xs : List PV} {x : PV}, thbs xs = true → x ∈ xs → thb x = true
  | y :: xs, x, h, hm => by
    simp only [thbs, Bool.and_eq_true] at h
    rcases List.mem_cons.mp hm with rfl | hm
    · exact h.1
    · exact thbs_mem h.2 hm
theorem thbs_of : ∀ {xs : List PV}, (∀ x ∈ xs, thb x = true) → thbs xs = true
  | [], _ => rfl
  | y :: xs, h => by
    simp only [thbs, Bool.and_eq_true]
    exact ⟨h y (by simp), thbs_of fun x hx => h x (by simp [hx])⟩
theorem thb_th : ∀ {p : PV}, thb p = true → Th p
  | .non, _ => .inr (.inr (.inl rfl))
  | .bl b, _ => .inr (.inl ⟨b, rfl⟩)
  | .int n, _ => .inl ⟨n, rfl⟩
  | .str x, _ => .inr (.inr (.inr (.inl ⟨x, rfl⟩)))
  | .tup xs, _ => .inr (.inr (.inr (.inr ⟨xs, rfl⟩)))
  | .tuz xs, h => by cases h
  | .lst xs, h => by cases h
  | .scr ns, h => by cases h
  | .ref n, h => by cases h
  | .raw v, h => by cases h
  | .dic _ _, h => by cases h
mutual
theorem eqv_rf : ∀ p : PV, thb p = true → PyData.eqv p.toD p.toD = true
  | .non, _ => by simp [PV.toD, PyData.eqv]
  | .bl b, _ => by simp [PV.toD, PyData.eqv]
  | .int n, _ => by simp [PV.toD, PyData.eqv]
  | .str x, _ => by simp [PV.toD, PyData.eqv]
  | .tup xs, h => by
    simp only [PV.toD, PyData.eqv]
    exact eqv_rfs xs h
  | .tuz xs, h => by cases h
  | .lst xs, h => by cases h
  | .scr ns, h => by cases h
  | .ref n, h => by cases h
  | .raw v, h => by cases h
  | .dic _ _, h => by cases h
theorem eqv_rfs : ∀ xs : List PV, thbs xs = true → PyData.eqvAll (toDs xs) (toDs xs) = true
  | [], _ => by simp [toDs, PyData.eqvAll]
  | x :: xs, h => by
    simp only [thbs, Bool.and_eq_true] at h
    simp only [toDs, PyData.eqvAll, Bool.and_eq_true]
    exact ⟨eqv_rf x h.1, eqv_rfs xs h.2⟩
end
theorem okd_tup {k : Nat} {xs : List PV} (h : ∀ x ∈ xs, okd k x = true) : okd (k + 1) (.tup xs) = true := by
  show xs.all (okd k) = true
  exact List.all_eq_true.mpr h
theorem x_neS {s : Stt} {xs : List PV} {Q : PV → Prop} (h1 : okd 60 (.tup xs) = true) (h2 : thbs xs = true) (h : Q (.bl false)) : ∃ w, pNe s (.tup xs) (.tup xs) = some w ∧ Q w :=
  ⟨_, pNe_v h1 h1 rfl rfl (show eqv (.tup xs) (.tup xs) = true from eqv_rf (.tup xs) h2), h⟩
theorem x_eqS {s : Stt} {xs : List PV} {Q : PV → Prop} (h1 : okd 60 (.tup xs) = true) (h2 : thbs xs = true) (h : Q (.bl true)) : ∃ w, pEq s (.tup xs) (.tup xs) = some w ∧ Q w :=
  ⟨_, pEq_v h1 h1 rfl rfl (show eqv (.tup xs) (.tup xs) = true from eqv_rf (.tup xs) h2), h⟩
theorem all_take {f : PV → Bool} {xs : List PV} {i : Nat} {a : PV} (h : xs[i]? = some a) (h1 : (xs.take i).all f = true) (h2 : f a = true) : (xs.take (i + 1)).all f = true := by
  rw [take_next h, List.all_append, h1]
  simp [h2]
theorem all_no {f : PV → Bool} {xs : List PV} {i : Nat} {a : PV} (h : xs[i]? = some a) (h2 : f a = false) : xs.all f = false := by
  refine List.all_eq_false.mpr ⟨a, List.mem_of_getElem? h, by simp [h2]⟩
/-! bounds, fates, rows of a book -/
def isBelow (m : Int) : PV → Bool
  | .int n => decide (0 ≤ n) && decide (n < m)
  | _ => false
theorem fn_is_below (S : Stt) (p : PV) (m : Int) (h : thb p = true) : Fn (den_is_below [p, .int m] S) (fun q s => s = S ∧ q = .bl (isBelow m p)) noR := by
  have h := thb_th h
  unfold den_is_below
  with_reducible refine fn_run ?_ ?_
  exact rfl
  unfold body_is_below
  rcases h with ⟨n, rfl⟩ | ⟨b, rfl⟩ | rfl | ⟨x, rfl⟩ | ⟨xs, rfl⟩
  · walk_at "fss"
    all_goals refine ⟨rfl, ?_⟩
    all_goals refine congrArg PV.bl ?_
    all_goals simp only [isBelow]
    all_goals first | (rw [decide_eq_true (by omega : 0 ≤ n)]; rfl) | (rw [decide_eq_false (by omega : ¬ 0 ≤ n)]; rfl)
  all_goals walk_at "fss"
  all_goals exact ⟨rfl, rfl⟩
def isBound : PV → Bool
  | .non => true
  | p => isBelow 65 p
theorem fn_is_bound (S : Stt) (p : PV) (h : thb p = true) : Fn (den_is_bound [p] S) (fun q s => s = S ∧ q = .bl (isBound p)) noR := by
  have h' := thb_th h
  unfold den_is_bound
  with_reducible refine fn_run ?_ ?_
  exact rfl
  unfold body_is_bound
  rcases h' with ⟨n, rfl⟩ | ⟨b, rfl⟩ | rfl | ⟨x, rfl⟩ | ⟨xs, rfl⟩
  · walk_at "fss"
    refine ⟨_, rfl, ?_⟩
    walk_at "fss"
    exact Fn.mono (show Fn (den_is_below [.int n, .int (64 + 1)] S) _ _ from fn_is_below S (.int n) 65 rfl) (fun q s h => h) fun _ _ _ h => h.elim
  · walk_at "fss"
    refine ⟨_, rfl, ?_⟩
    walk_at "fss"
    exact Fn.mono (show Fn (den_is_below [.bl b, .int (64 + 1)] S) _ _ from fn_is_below S (.bl b) 65 rfl) (fun q s h => h) fun _ _ _ h => h.elim
  · walk_at "fss"
    refine ⟨_, rfl, ?_⟩
    walk_at "fss"
    exact ⟨rfl, rfl⟩
  · walk_at "fss"
    refine ⟨_, rfl, ?_⟩
    walk_at "fss"
    exact Fn.mono (show Fn (den_is_below [.str x, .int (64 + 1)] S) _ _ from fn_is_below S (.str x) 65 rfl) (fun q s h => h) fun _ _ _ h => h.elim
  · walk_at "fss"
    refine ⟨_, rfl, ?_⟩
    walk_at "fss"
    exact Fn.mono (show Fn (den_is_below [.tup xs, .int (64 + 1)] S) _ _ from fn_is_below S (.tup xs) 65 h) (fun q s h => h) fun _ _ _ h => h.elim
def isFate : PV → Bool
  | .tup [a, b] => isBound a && isBound b
  | _ => false
theorem fn_is_fate (S : Stt) (p : PV) (h : thb p = true) : Fn (den_is_fate [p] S) (fun q s => s = S ∧ q = .bl (isFate p)) noR := by
  have h' := thb_th h
  unfold den_is_fate
  with_reducible refine fn_run ?_ ?_
  exact rfl
  unfold body_is_fate
  rcases h' with ⟨n, rfl⟩ | ⟨b, rfl⟩ | rfl | ⟨x, rfl⟩ | ⟨xs, rfl⟩
  · walk_at "fss"
    exact ⟨rfl, rfl⟩
  · walk_at "fss"
    exact ⟨rfl, rfl⟩
  · walk_at "fss"
    exact ⟨rfl, rfl⟩
  · walk_at "fss"
    exact ⟨rfl, rfl⟩
  · rcases xs with _ | ⟨a, _ | ⟨b, _ | ⟨c, r⟩⟩⟩
    · walk_at "fss"
      all_goals first | exact ⟨rfl, rfl⟩ | (rename_i h; exact absurd h (by decide))
    · walk_at "fss"
      all_goals first | exact ⟨rfl, rfl⟩ | (rename_i h; exact absurd h (show ¬ ((1 : Nat) : Int) = 2 by decide))
    · have ha : thb a = true := thbs_mem h (by simp)
      have hb : thb b = true := thbs_mem h (by simp)
      walk_at "fss"
      · refine no_implicit_lambda% (Fn.mono (fn_is_bound S a ha) (fun q s' ⟨e1, e2⟩ => ?_) fun _ _ _ h => h.elim)
        subst e1 e2
        cases hc : isBound a
        · walk_at "fss"
          exact ⟨rfl, by simp [isFate, hc]⟩
        · walk_at "fss"
          refine no_implicit_lambda% (Fn.mono (fn_is_bound s' b hb) (fun q s' ⟨e1, e2⟩ => ?_) fun _ _ _ h => h.elim)
          subst e1 e2
          exact ⟨rfl, by simp [isFate, hc]⟩
      · rename_i h; exact absurd rfl h
    · walk_at "fss"
      all_goals first | exact ⟨rfl, rfl⟩ | (rename_i h; simp at h; omega)
def isRow (n : Nat) : PV → Bool
  | .tup xs => decide (xs.length = n) && xs.all isFate
  | _ => false
theorem fn_is_row (S : Stt) (p : PV) (n : Nat) (h : thb p = true) : Fn (den_is_row [.int n, p] S) (fun q s => s = S ∧ q = .bl (isRow n p)) noR := by
  have h' := thb_th h
  unfold den_is_row
  with_reducible refine fn_run ?_ ?_
  exact rfl
  unfold body_is_row
  rcases h' with ⟨m, rfl⟩ | ⟨b, rfl⟩ | rfl | ⟨x, rfl⟩ | ⟨xs, rfl⟩
  · walk_at "fss"
    exact ⟨rfl, rfl⟩
  · walk_at "fss"
    exact ⟨rfl, rfl⟩
  · walk_at "fss"
    exact ⟨rfl, rfl⟩
  · walk_at "fss"
    exact ⟨rfl, rfl⟩
  · walk_at "fss"
    · rename_i hl
      refine ⟨rfl, congrArg PV.bl ?_⟩
      show false = (decide (xs.length = n) && xs.all isFate)
      rw [decide_eq_false (by omega)]
      rfl
    · rename_i hl
      have hl2 : xs.length = n := by omega
      with_reducible refine wp_for ?_
      walk_at "fss"
      refine ⟨fun i e s => s = S ∧ (xs.take i).all isFate = true ∧ ∃ x, e = [.val (.int n), .val (.tup xs), x], ⟨rfl, rfl, _, rfl⟩, fun i t e s hi ⟨e1, h1, x, e2⟩ => ?_, fun e s ⟨e1, h1, x, e2⟩ => ?_⟩
      · subst e1 e2
        walk_at "fss"
        refine no_implicit_lambda% (Fn.mono (fn_is_fate s t (thbs_mem h (List.mem_of_getElem? hi))) (fun q s' ⟨e1, e2⟩ => ?_) fun _ _ _ h => h.elim)
        subst e1 e2
        cases hc : isFate t
        · walk_at "fss"
          refine ⟨rfl, congrArg PV.bl ?_⟩
          show false = (decide (xs.length = n) && xs.all isFate)
          rw [all_no hi hc, Bool.and_false]
        · walk_at "fss"
          exact ⟨rfl, all_take hi h1 hc, _, rfl⟩
      · subst e1 e2
        rw [List.take_of_length_le (Nat.le_refl _)] at h1
        walk_at "fss"
        refine ⟨rfl, congrArg PV.bl ?_⟩
        show true = (decide (xs.length = n) && xs.all isFate)
        rw [h1, decide_eq_true hl2]
        rfl
/-! tuples of one item for each shelf -/
def fine (n : Nat) (ok : PV → Bool) (p : PV) : Prop := ∃ xs, p = .tup xs ∧ xs.length = n ∧ xs.all ok = true
def bad (n : Nat) (ok : PV → Bool) (p : PV) (w : Int) : Prop := (w = -1 ∧ ∀ xs, p = .tup xs → xs.length ≠ n) ∨ ∃ (xs : List PV) (i : Nat), p = .tup xs ∧ xs.length = n ∧ w = i ∧ (xs.take i).all ok = true ∧ ∃ a, xs[i]? = some a ∧ ok a = false
theorem fine_bad {n : Nat} {ok : PV → Bool} {p : PV} {w : Int} (h : fine n ok p) (b : bad n ok p w) : False := by
  obtain ⟨xs, rfl, h1, h2⟩ := h
  rcases b with ⟨_, b⟩ | ⟨ys, i, e, _, _, _, a, h3, h4⟩
  · exact b xs rfl h1
  · cases e
    have := List.all_eq_true.mp h2 a (List.mem_of_getElem? h3)
    rw [this] at h4
    cases h4
theorem fn_shelves (S : Stt) (p k : Int) (xs : List Int) (hg : Gnd p k xs) : Fn (den_shelves [gv p k xs] S) (fun q s => s = S ∧ q = .int xs.length) noR := by
  have hl := ints_len xs
  unfold den_shelves
  with_reducible refine fn_run ?_ ?_
  exact rfl
  unfold body_shelves
  walk_at "fss"
  refine no_implicit_lambda% (Fn.mono (fn_made_ground S p k xs hg) (fun q s ⟨e1, e2⟩ => ?_) fun _ _ _ h => h.elim)
  subst e1 e2
  walk_at "fss"
  rw [hl]
  exact ⟨rfl, rfl⟩
theorem x_addT {s : Stt} {xs ys : List PV} {Q : PV → Prop} (h : xs.length + ys.length ≤ sizeLine) (hq : Q (.tup (xs ++ ys))) : ∃ w, pAdd s (.tup xs) (.tup ys) = some w ∧ Q w := ⟨_, by
  show (if xs.length + ys.length ≤ sizeLine then some (PV.tup (xs ++ ys)) else none) = _
  rw [if_pos h], hq⟩
theorem small2 {a b : Nat} (h : a + b < 100000) : a + b ≤ sizeLine := Nat.le_of_lt (small_line h)
/-! books, weavings, judged -/
theorem eqv_nil {a : PV} {r : List PV} : eqv (.tup (a :: r)) (.tup []) = false := by
  show PyData.eqv (.tuple (a.toD :: toDs r)) (.tuple []) = false
  simp [PyData.eqv, PyData.eqvAll]
theorem fn_made_book (S : Stt) (n : Nat) (rs : List PV) (h1 : 1 ≤ n) (h2 : n ≤ 8) (hr : thbs rs = true) (hk : okd 60 (.tup rs) = true) (hne : rs ≠ []) (hl : rs.length ≤ 24) : Fn (den_made_book [.int n, .tup rs] S) (fun q s => s = S ∧ q = .tup rs ∧ rs.all (isRow n) = true)
    (fun c w s => s = S ∧ c = "BadBook" ∧ ∃ (i : Nat) (a : PV), w = .int i ∧ rs[i]? = some a ∧ isRow n a = false ∧ (rs.take i).all (isRow n) = true) := by
  unfold den_made_book
  with_reducible refine fn_run ?_ ?_
  exact rfl
  unfold body_made_book
  walk_at "fss"
  refine no_implicit_lambda% (Fn.mono (show Fn (den_is_below [.int n, .int (8 + 1)] S) _ _ from fn_is_below S (.int n) 9 rfl) (fun q s' ⟨e1, e2⟩ => ?_) fun _ _ _ h => h.elim)
  subst e1 e2
  rw [show isBelow 9 (.int n) = true by simp [isBelow]; omega]
  walk_at "fss"
  · rename_i h
    omega
  · obtain ⟨a, r, e⟩ : ∃ a r, rs = a :: r := by
      cases rs with
      | nil => exact absurd rfl hne
      | cons a r => exact ⟨a, r, rfl⟩
    refine ⟨_, show pEq s' (.tup rs) (.tup []) = some (.bl false) from pEq_v hk rfl rfl rfl (by rw [e]; exact eqv_nil), ?_⟩
    walk_at "fss"
    · rename_i hg
      omega
    · with_reducible refine wp_for ?_
      walk_at "fss"
      refine x_enum rfl ?_
      refine ⟨fun i e s => s = s' ∧ (rs.take i).all (isRow n) = true ∧ ∃ x y, e = [.val (.int n), .val (.tup rs), x, y], ⟨rfl, rfl, _, _, rfl⟩, fun i t e s hi ⟨e1, h1, x, y, e2⟩ => ?_, fun e s ⟨e1, h1, x, y, e2⟩ => ?_⟩
      · obtain ⟨u, hu, rfl⟩ := enumL_get hi
        subst e1 e2
        walk_at "fss"
        refine no_implicit_lambda% (Fn.mono (fn_is_row s u n (thbs_mem hr (List.mem_of_getElem? hu))) (fun q s' ⟨e1, e2⟩ => ?_) fun _ _ _ h => h.elim)
        subst e1 e2
        cases hc : isRow n u
        · walk_at "fss"
          exact ⟨rfl, rfl, i, u, rfl, hu, hc, h1⟩
        · walk_at "fss"
          exact ⟨rfl, all_take hu h1 hc, _, _, rfl⟩
      · subst e1 e2
        have e5 : (enumL rs).length = rs.length := by simp [enumL]
        rw [e5, List.take_of_length_le (Nat.le_refl _)] at h1
        walk_at "fss"
        exact ⟨rfl, rfl, h1⟩
def isTape : PV → Bool
  | .tup xs => decide (xs.length ≤ 1024) && xs.all (isBelow 64)
  | _ => false
theorem fn_is_tape (S : Stt) (p : PV) (h : thb p = true) : Fn (den_is_tape [p] S) (fun q s => s = S ∧ q = .bl (isTape p)) noR := by
  have h' := thb_th h
  unfold den_is_tape
  with_reducible refine fn_run ?_ ?_
  exact rfl
  unfold body_is_tape
  rcases h' with ⟨n, rfl⟩ | ⟨b, rfl⟩ | rfl | ⟨x, rfl⟩ | ⟨xs, rfl⟩
  · walk_at "fss"
    exact ⟨rfl, rfl⟩
  · walk_at "fss"
    exact ⟨rfl, rfl⟩
  · walk_at "fss"
    exact ⟨rfl, rfl⟩
  · walk_at "fss"
    exact ⟨rfl, rfl⟩
  · walk_at "fss"
    · rename_i hl
      refine ⟨rfl, congrArg PV.bl ?_⟩
      show false = (decide (xs.length ≤ 1024) && xs.all (isBelow 64))
      rw [decide_eq_false (by omega)]
      rfl
    · rename_i hl
      have hl2 : xs.length ≤ 1024 := by omega
      with_reducible refine wp_for ?_
      walk_at "fss"
      refine ⟨fun i e s => s = S ∧ (xs.take i).all (isBelow 64) = true ∧ ∃ x, e = [.val (.tup xs), x], ⟨rfl, rfl, _, rfl⟩, fun i t e s hi ⟨e1, h1, x, e2⟩ => ?_, fun e s ⟨e1, h1, x, e2⟩ => ?_⟩
      · subst e1 e2
        walk_at "fss"
        refine no_implicit_lambda% (Fn.mono (fn_is_below s t 64 (thbs_mem h (List.mem_of_getElem? hi))) (fun q s' ⟨e1, e2⟩ => ?_) fun _ _ _ h => h.elim)
        subst e1 e2
        cases hc : isBelow 64 t
        · walk_at "fss"
          refine ⟨rfl, congrArg PV.bl ?_⟩
          show false = (decide (xs.length ≤ 1024) && xs.all (isBelow 64))
          rw [all_no hi hc, Bool.and_false]
        · walk_at "fss"
          exact ⟨rfl, all_take hi h1 hc, _, rfl⟩
      · subst e1 e2
        rw [List.take_of_length_le (Nat.le_refl _)] at h1
        walk_at "fss"
        refine ⟨rfl, congrArg PV.bl ?_⟩
        show true = (decide (xs.length ≤ 1024) && xs.all (isBelow 64))
        rw [h1, decide_eq_true hl2]
        rfl
theorem fn_made_weaving (S : Stt) (p k : Int) (xs : List Int) (r : PV) (hg : Gnd p k xs) (hr : thb r = true) : Fn (den_made_weaving [gv p k xs, r] S) (fun q s => s = S ∧ q = r ∧ fine xs.length isTape r)
    (fun c w s => s = S ∧ c = "BadWeaving" ∧ ∃ i : Int, w = .int i ∧ bad xs.length isTape r i) := by
  have hl := ints_len xs
  have h' := thb_th hr
  unfold den_made_weaving
  with_reducible refine fn_run ?_ ?_
  exact rfl
  unfold body_made_weaving
  walk_at "fss"
  refine no_implicit_lambda% (Fn.mono (fn_made_ground S p k xs hg) (fun q s ⟨e1, e2⟩ => ?_) fun _ _ _ h => h.elim)
  subst e1 e2
  rcases h' with ⟨n, rfl⟩ | ⟨b, rfl⟩ | rfl | ⟨x, rfl⟩ | ⟨ts, rfl⟩
  · walk_at "fss"
    exact ⟨rfl, rfl, _, rfl, .inl ⟨rfl, fun ys e => by cases e⟩⟩
  · walk_at "fss"
    exact ⟨rfl, rfl, _, rfl, .inl ⟨rfl, fun ys e => by cases e⟩⟩
  · walk_at "fss"
    exact ⟨rfl, rfl, _, rfl, .inl ⟨rfl, fun ys e => by cases e⟩⟩
  · walk_at "fss"
    exact ⟨rfl, rfl, _, rfl, .inl ⟨rfl, fun ys e => by cases e⟩⟩
  · walk_at "fss"
    refine no_implicit_lambda% (Fn.mono (fn_shelves s p k xs hg) (fun q s' ⟨e1, e2⟩ => ?_) fun _ _ _ h => h.elim)
    subst e1 e2
    walk_at "fss"
    · rename_i hne
      exact ⟨rfl, rfl, _, rfl, .inl ⟨rfl, fun ys e => by cases e; intro z; exact hne (by rw [z])⟩⟩
    · rename_i hle
      have hle2 : ts.length = xs.length := by omega
      with_reducible refine wp_for ?_
      walk_at "fss"
      refine x_enum rfl ?_
      refine ⟨fun i e s => s = s' ∧ (ts.take i).all isTape = true ∧ ∃ x y, e = [.val (gv p k xs), .val (.tup ts), x, y], ⟨rfl, rfl, _, _, rfl⟩, fun i t e s hi ⟨e1, h1, x, y, e2⟩ => ?_, fun e s ⟨e1, h1, x, y, e2⟩ => ?_⟩
      · obtain ⟨u, hu, rfl⟩ := enumL_get hi
        subst e1 e2
        walk_at "fss"
        refine no_implicit_lambda% (Fn.mono (fn_is_tape s u (thbs_mem hr (List.mem_of_getElem? hu))) (fun q s' ⟨e1, e2⟩ => ?_) fun _ _ _ h => h.elim)
        subst e1 e2
        cases hc : isTape u
        · walk_at "fss"
          exact ⟨rfl, rfl, _, rfl, .inr ⟨ts, i, rfl, hle2, rfl, h1, u, hu, hc⟩⟩
        · walk_at "fss"
          exact ⟨rfl, all_take hu h1 hc, _, _, rfl⟩
      · subst e1 e2
        have e5 : (enumL ts).length = ts.length := by simp [enumL]
        rw [e5, List.take_of_length_le (Nat.le_refl _)] at h1
        walk_at "fss"
        exact ⟨rfl, rfl, ts, rfl, hle2, h1⟩
theorem fn_is_number (S : Stt) (p : PV) (lo hi : Int) (h : Th p) : Fn (den_is_number [p, .int lo, .int hi] S) (fun q s => s = S ∧ q = .bl (isW lo hi p)) noR := by
  unfold den_is_number
  with_reducible refine fn_run ?_ ?_
  exact rfl
  unfold body_is_number
  rcases h with ⟨n, rfl⟩ | ⟨b, rfl⟩ | rfl | ⟨x, rfl⟩ | ⟨xs, rfl⟩
  · walk_at "fss"
    all_goals refine ⟨rfl, ?_⟩
    all_goals refine congrArg PV.bl ?_
    all_goals simp only [isW]
    all_goals first | (rw [decide_eq_true (by omega : lo ≤ n)]; rfl) | (rw [decide_eq_false (by omega : ¬ lo ≤ n)]; rfl)
  all_goals walk_at "fss"
  all_goals exact ⟨rfl, rfl⟩
end
end I
end FS
set_option Elab.async false
set_option linter.all false
set_option pp.maxSteps 700
set_option maxRecDepth 100000
set_option maxHeartbeats 8000000
namespace FS
open PySem L2
namespace I
section
local macro_rules | `(tactic| walk_at "okm") => `(tactic| first | (exact okMul_l (by omega)) | (exact okMul_r (by omega)) | decide)
local macro_rules | `(tactic| walk_at "fsW") => `(tactic| first
  | (with_reducible refine wp_useL ?_)
  | (with_reducible refine wp_lenL ?_)
  | (with_reducible refine wp_ixL ?_)
  | (with_reducible refine wp_mthL ?_)
  | ((with_reducible refine wp_gtupC ?_ ?_); exact rfl)
  | ((with_reducible refine wp_gtupZ ?_ ?_); exact rfl))
local macro_rules | `(tactic| walk_at "fsE") => `(tactic| first
  | ((with_reducible show ∃ ys, _ = some (Slot.own ys) ∧ _); refine x_own1 rfl ?_)
  | ((with_reducible refine x_mul ?_ ?_); (walk_at "okm"))
  | ((with_reducible refine x_div ?_ ?_ ?_); omega; omega)
  | ((with_reducible refine x_mod ?_ ?_); omega)
  | ((with_reducible refine x_pow ?_ ?_); decide)
  | ((with_reducible show ∃ k, _ = some (PV.bl k) ∧ _); refine x_chain rfl ?_)
  | ((with_reducible show ∃ n ys, _ = PV.ref n ∧ _ = some (SO.lst ys) ∧ _); refine x_mR rfl rfl ?_)
  | ((with_reducible show ∃ w, pIx _ _ _ = some w ∧ _); refine x_ix rfl ?_)
  | ((with_reducible show ∃ w, fLen _ _ = some w ∧ _); refine x_len rfl ?_)
  | ((with_reducible show ∃ w, fInt _ _ = some w ∧ _); refine x_int rfl ?_)
  | ((with_reducible refine x_isi (w := .bl true) ?_ ?_); exact rfl)
  | ((with_reducible refine x_isi (w := .bl false) ?_ ?_); exact rfl)
  | ((with_reducible show ∃ w, fTuple _ _ = some w ∧ _); refine x_tupf rfl ?_)
  | ((with_reducible show ∃ w, fMin _ _ = some w ∧ _); refine x_minf rfl ?_)
  | ((with_reducible show ∃ w, fMax _ _ = some w ∧ _); refine x_maxf rfl ?_)
  | ((with_reducible show ∃ w, pCut _ _ _ _ = some w ∧ _); refine x_pcut rfl ?_)
  | ((with_reducible show ∃ w, itemsOf _ _ = some w ∧ _); refine x_itm rfl ?_)
  | ((with_reducible show ∃ w, itemsF _ = some w ∧ _); refine x_itF rfl ?_)
  | ((with_reducible show ∃ i, _ = PV.int i ∧ _); refine x_part rfl ?_)
  | ((with_reducible show ∃ p q, _ = [p, q] ∧ _); refine x_par rfl ?_)
  | ((with_reducible show ∃ n xs j m, _ = PV.ref n ∧ _ = PV.int j ∧ _ ∧ _ ∧ _); refine x_setR rfl rfl rfl rfl ?_))
local macro_rules | `(tactic| walk_at "fsR") => `(tactic| first
  | ((with_reducible show Wp _ _ _); (walk_at "fsW"))
  | ((with_reducible show Exists _); (walk_at "fsE"))
  | ((with_reducible show LkS _ _ _); first | refine lks_v rfl ?_ | refine lks_o rfl ?_)
  | ((with_reducible show _ ≤ sizeLine ∧ _); refine x_low rfl ?_)
  | ((with_reducible show List.length _ = _ ∧ _); refine x_num rfl ?_))
local macro_rules | `(tactic| walk_at "fs1") => `(tactic| first | (with_reducible refine run1 ?_) | (walk_at "fsR"))
local macro_rules | `(tactic| walk_at "fs0") => `(tactic| first | (with_reducible refine stp1 ?_) | (walk_at "fsR"))
local macro_rules | `(tactic| walk_at "fs") => `(tactic| repeat (walk_at "fs1"))
local macro_rules | `(tactic| walk_at "fsp") => `(tactic| (with_reducible refine x_spl ?_ ?_) <;> (intro h; first | (simp only [Bool.not_true, Bool.not_false, reduceCtorEq, decide_eq_true_eq, decide_eq_false_iff_not, Bool.not_eq_true', Bool.not_eq_false', Bool.and_eq_true, Int.not_lt, Int.not_le, Bool.or_eq_true, Bool.and_eq_false_iff, Bool.or_eq_false_iff, Bool.false_and, Bool.true_and, Bool.or_false, Bool.false_or, beq_self_eq_true, Bool.true_or, List.isEmpty_nil, List.isEmpty_cons] at h) | skip))
local macro_rules | `(tactic| walk_at "fss") => `(tactic| repeat' (first | (walk_at "fs1") | (walk_at "fsp")))
/-! heads of tapes -/
abbrev Ft := Option Nat × Option Nat
def bdP : Option Nat → PV
  | none => .non
  | some n => .int n
def ftP (f : Ft) : PV := .tup [bdP f.1, bdP f.2]
def rwP (r : List Ft) : PV := .tup (r.map ftP)
def gtB : Option Nat → Option Nat → Option Nat
  | some a, some b => some (max a b)
  | _, _ => none
def lsB : Option Nat → Option Nat → Option Nat
  | none, b => b
  | a, none => a
  | some a, some b => some (min a b)
def woB (n : Nat) : Option Nat → Nat
  | none => 0
  | some k => n - k
def msB (f g : Ft) (t : Bool) : Option Nat := if t then lsB f.1 g.1 else f.1
def hdB (n : Nat) (f g : Ft) (t : Bool) : Nat := woB (woB n (msB f g t)) (gtB f.2 g.2)
theorem fn_greater (S : Stt) (a b : Option Nat) : Fn (den_greater [bdP a, bdP b] S) (fun q s => s = S ∧ q = bdP (gtB a b)) noR := by
  unfold den_greater
  with_reducible refine fn_run ?_ ?_
  exact rfl
  unfold body_greater
  rcases a with _ | a <;> rcases b with _ | b <;> simp only [bdP, gtB]
  · walk_at "fss"
    refine ⟨_, rfl, ?_⟩
    walk_at "fss"
    exact ⟨rfl, rfl⟩
  · walk_at "fss"
    refine ⟨_, rfl, ?_⟩
    walk_at "fss"
    exact ⟨rfl, rfl⟩
  · walk_at "fss"
    refine ⟨_, rfl, ?_⟩
    walk_at "fss"
    refine ⟨_, rfl, ?_⟩
    walk_at "fss"
    exact ⟨rfl, rfl⟩
  · walk_at "fss"
    refine ⟨_, rfl, ?_⟩
    walk_at "fss"
    refine ⟨_, rfl, ?_⟩
    walk_at "fss"
    refine ⟨rfl, congrArg PV.int ?_⟩
    split <;> omega
theorem fn_lesser (S : Stt) (a b : Option Nat) : Fn (den_lesser [bdP a, bdP b] S) (fun q s => s = S ∧ q = bdP (lsB a b)) noR := by
  unfold den_lesser
  with_reducible refine fn_run ?_ ?_
  exact rfl
  unfold body_lesser
  rcases a with _ | a <;> rcases b with _ | b <;> simp only [bdP, lsB]
  · walk_at "fss"
    refine ⟨_, rfl, ?_⟩
    walk_at "fss"
    refine ⟨_, rfl, ?_⟩
    walk_at "fss"
    exact ⟨rfl, rfl⟩
  · walk_at "fss"
    refine ⟨_, rfl, ?_⟩
    walk_at "fss"
    refine ⟨_, rfl, ?_⟩
    walk_at "fss"
    exact ⟨rfl, rfl⟩
  · walk_at "fss"
    refine ⟨_, rfl, ?_⟩
    walk_at "fss"
    refine ⟨_, rfl, ?_⟩
    walk_at "fss"
    refine ⟨_, rfl, ?_⟩
    walk_at "fss"
    exact ⟨rfl, rfl⟩
  · walk_at "fss"
    refine ⟨_, rfl, ?_⟩
    walk_at "fss"
    refine ⟨_, rfl, ?_⟩
    walk_at "fss"
    refine ⟨rfl, congrArg PV.int ?_⟩
    split <;> omega
theorem fn_without (S : Stt) (n : Nat) (a : Option Nat) : Fn (den_without [.int n, bdP a] S) (fun q s => s = S ∧ q = .int (woB n a)) noR := by
  unfold den_without
  with_reducible refine fn_run ?_ ?_
  exact rfl
  unfold body_without
  rcases a with _ | a <;> simp only [bdP, woB]
  · walk_at "fss"
    refine ⟨_, rfl, ?_⟩
    walk_at "fss"
    exact ⟨rfl, rfl⟩
  · walk_at "fss"
    refine ⟨_, rfl, ?_⟩
    walk_at "fss"
    refine ⟨rfl, congrArg PV.int ?_⟩
    split <;> omega
theorem fn_missing (S : Stt) (f g : Ft) (t : Bool) : Fn (den_missing [ftP f, ftP g, .bl t] S) (fun q s => s = S ∧ q = bdP (msB f g t)) noR := by
  unfold den_missing
  with_reducible refine fn_run ?_ ?_
  exact rfl
  unfold body_missing
  unfold ftP msB
  cases t
  · walk_at "fss"
    exact ⟨rfl, rfl⟩
  · walk_at "fss"
    exact Fn.mono (fn_lesser S f.1 g.1) (fun q s h => h) fun _ _ _ h => h.elim
theorem fn_head (S : Stt) (n : Nat) (f g : Ft) (t : Bool) : Fn (den_head [.int n, ftP f, ftP g, .bl t] S) (fun q s => s = S ∧ q = .int (hdB n f g t)) noR := by
  unfold den_head
  with_reducible refine fn_run ?_ ?_
  exact rfl
  unfold body_head
  walk_at "fss"
  refine no_implicit_lambda% (Fn.mono (fn_missing S f g t) (fun q s' ⟨e1, e2⟩ => ?_) fun _ _ _ h => h.elim)
  subst e1 e2
  walk_at "fss"
  refine no_implicit_lambda% (Fn.mono (fn_without s' n (msB f g t)) (fun q s ⟨e1, e2⟩ => ?_) fun _ _ _ h => h.elim)
  subst e1 e2
  walk_at "fss"
  trace_state
  refine no_implicit_lambda% (Fn.mono (fn_greater s f.2 g.2) (fun q s' ⟨e1, e2⟩ => ?_) fun _ _ _ h => h.elim)
  subst e1 e2
  walk_at "fss"
  exact Fn.mono (fn_without s' (woB n (msB f g t)) (gtB f.2 g.2)) (fun q s h => h) fun _ _ _ h => h.elim
end
end I
end FS
set_option Elab.async false
set_option linter.all false
set_option pp.maxSteps 700
set_option maxRecDepth 100000
set_option maxHeartbeats 8000000
namespace FS
open PySem L2
namespace I
section
local macro_rules | `(tactic| walk_at "okm") => `(tactic| first | (exact okMul_l (by omega)) | (exact okMul_r (by omega)) | decide)
local macro_rules | `(tactic| walk_at "fsW") => `(tactic| first
  | (with_reducible refine wp_useL ?_)
  | (with_reducible refine wp_lenL ?_)
  | (with_reducible refine wp_ixL ?_)
  | (with_reducible refine wp_mthL ?_)
  | ((with_reducible refine wp_gtupC ?_ ?_); exact rfl)
  | ((with_reducible refine wp_gtupZ ?_ ?_); exact rfl))
local macro_rules | `(tactic| walk_at "fsE") => `(tactic| first
  | ((with_reducible show ∃ ys, _ = some (Slot.own ys) ∧ _); refine x_own1 rfl ?_)
  | ((with_reducible refine x_mul ?_ ?_); (walk_at "okm"))
  | ((with_reducible refine x_div ?_ ?_ ?_); omega; omega)
  | ((with_reducible refine x_mod ?_ ?_); omega)
  | ((with_reducible refine x_pow ?_ ?_); decide)
  | ((with_reducible show ∃ k, _ = some (PV.bl k) ∧ _); refine x_chain rfl ?_)
  | ((with_reducible show ∃ n ys, _ = PV.ref n ∧ _ = some (SO.lst ys) ∧ _); refine x_mR rfl rfl ?_)
  | ((with_reducible show ∃ w, pIx _ _ _ = some w ∧ _); refine x_ix rfl ?_)
  | ((with_reducible show ∃ w, fLen _ _ = some w ∧ _); refine x_len rfl ?_)
  | ((with_reducible show ∃ w, fInt _ _ = some w ∧ _); refine x_int rfl ?_)
  | ((with_reducible refine x_isi (w := .bl true) ?_ ?_); exact rfl)
  | ((with_reducible refine x_isi (w := .bl false) ?_ ?_); exact rfl)
  | ((with_reducible show ∃ w, fTuple _ _ = some w ∧ _); refine x_tupf rfl ?_)
  | ((with_reducible show ∃ w, fMin _ _ = some w ∧ _); refine x_minf rfl ?_)
  | ((with_reducible show ∃ w, fMax _ _ = some w ∧ _); refine x_maxf rfl ?_)
  | ((with_reducible show ∃ w, pCut _ _ _ _ = some w ∧ _); refine x_pcut rfl ?_)
  | ((with_reducible show ∃ w, itemsOf _ _ = some w ∧ _); refine x_itm rfl ?_)
  | ((with_reducible show ∃ w, itemsF _ = some w ∧ _); refine x_itF rfl ?_)
  | ((with_reducible show ∃ i, _ = PV.int i ∧ _); refine x_part rfl ?_)
  | ((with_reducible show ∃ p q, _ = [p, q] ∧ _); refine x_par rfl ?_)
  | ((with_reducible show ∃ n xs j m, _ = PV.ref n ∧ _ = PV.int j ∧ _ ∧ _ ∧ _); refine x_setR rfl rfl rfl rfl ?_))
local macro_rules | `(tactic| walk_at "fsR") => `(tactic| first
  | ((with_reducible show Wp _ _ _); (walk_at "fsW"))
  | ((with_reducible show Exists _); (walk_at "fsE"))
  | ((with_reducible show LkS _ _ _); first | refine lks_v rfl ?_ | refine lks_o rfl ?_)
  | ((with_reducible show _ ≤ sizeLine ∧ _); refine x_low rfl ?_)
  | ((with_reducible show List.length _ = _ ∧ _); refine x_num rfl ?_))
local macro_rules | `(tactic| walk_at "fs1") => `(tactic| first | (with_reducible refine run1 ?_) | (walk_at "fsR"))
local macro_rules | `(tactic| walk_at "fs0") => `(tactic| first | (with_reducible refine stp1 ?_) | (walk_at "fsR"))
local macro_rules | `(tactic| walk_at "fs") => `(tactic| repeat (walk_at "fs1"))
local macro_rules | `(tactic| walk_at "fsp") => `(tactic| (with_reducible refine x_spl ?_ ?_) <;> (intro h; first | (simp only [Bool.not_true, Bool.not_false, reduceCtorEq, decide_eq_true_eq, decide_eq_false_iff_not, Bool.not_eq_true', Bool.not_eq_false', Bool.and_eq_true, Int.not_lt, Int.not_le, Bool.or_eq_true, Bool.and_eq_false_iff, Bool.or_eq_false_iff, Bool.false_and, Bool.true_and, Bool.or_false, Bool.false_or, beq_self_eq_true, Bool.true_or, List.isEmpty_nil, List.isEmpty_cons] at h) | skip))
local macro_rules | `(tactic| walk_at "fss") => `(tactic| repeat' (first | (walk_at "fs1") | (walk_at "fsp")))
/-! sums of heads -/
/-- a new list by numbers from 0 on -/
def rgF (n : Nat) (f : Nat → PV) : List PV := (List.range n).map f
theorem rgF_next (n : Nat) (f : Nat → PV) : rgF (n + 1) f = rgF n f ++ [f n] := by
  unfold rgF
  rw [List.range_succ, List.map_append]
  rfl
theorem rgF_len (n : Nat) (f : Nat → PV) : (rgF n f).length = n := by
  unfold rgF
  rw [List.length_map, List.length_range]
theorem rgF_get {n i : Nat} {f : Nat → PV} (h : i < n) : (rgF n f)[i]? = some (f i) := by
  unfold rgF
  rw [List.getElem?_map, List.getElem?_range h]
  rfl
theorem getD_some {α : Type} {xs : List α} {i : Nat} {a d : α} (h : xs[i]? = some a) : xs.getD i d = a := by
  rw [List.getD_eq_getElem?_getD, h]
  rfl
theorem map_at {α : Type} {xs : List α} {i : Nat} {d : α} (f : α → PV) (h : i < xs.length) : atI (xs.map f) (i : Int) = some (f (xs.getD i d)) := by
  refine atI_nat ?_
  rw [List.getElem?_map, List.getElem?_eq_getElem h, List.getD_eq_getElem?_getD, List.getElem?_eq_getElem h]
  rfl
theorem map_get {α : Type} {xs : List α} {i : Nat} {d : α} {f : α → PV} {p : PV} (h : (xs.map f)[i]? = some p) : i < xs.length ∧ p = f (xs.getD i d) := by
  rw [List.getElem?_map] at h
  cases q : xs[i]? with
  | none => rw [q] at h; cases h
  | some a =>
    rw [q] at h
    exact ⟨(List.getElem?_eq_some_iff.mp q).1, by rw [getD_some q]; exact (Option.some.inj h).symm⟩
abbrev Wv := List (List Int)
def wvP (w : Wv) : PV := .tup (w.map tupI)
def bkP (bk : List (List Ft)) : PV := .tup (bk.map rwP)
def lnL (w : Wv) : List PV := w.map fun t => PV.int (t.length : Nat)
def hdAt (w : Wv) (r o : List Ft) (t : Bool) (i : Nat) : Nat := hdB (w.getD i []).length (r.getD i (none, none)) (o.getD i (none, none)) t
def hdL (w : Wv) (r o : List Ft) (t : Bool) : List PV := rgF w.length fun i => .int (hdAt w r o t i : Nat)
theorem fn_heads (S : Stt) (w : Wv) (r o : List Ft) (t : Bool) (hr : r.length = w.length) (ho : o.length = w.length) (hw : w.length < 1000) : Fn (den_heads [.lst (lnL w), rwP r, rwP o, .bl t] S) (fun q s => s = S ∧ q = .lst (hdL w r o t)) noR := by
  have hl : (lnL w).length = w.length := List.length_map ..
  unfold den_heads
  with_reducible refine fn_run ?_ ?_
  exact rfl
  unfold body_heads
  walk_at "fss"
  with_reducible refine wp_comp ?_
  walk_at "fss"
  rw [hl]
  refine x_rng1 (by omega) (by omega) ?_
  rw [Int.toNat_natCast]
  refine ⟨fun m acc e s => s = S ∧ acc = rgF m (fun i => .int (hdAt w r o t i : Nat)) ∧ e = [.val (.lst (lnL w)), .val (rwP r), .val (rwP o), .val (.bl t), .none], ⟨rfl, rfl, rfl⟩, fun m q acc e s hi ⟨e1, h1, e2⟩ => ?_, fun acc e s ⟨e1, h1, e2⟩ => ?_⟩
  · obtain ⟨hj, rfl⟩ := rng_get _ _ _ _ hi
    subst e1 e2 h1
    walk_at "fss"
    refine x_ix (map_at (d := []) (fun t => PV.int (t.length : Nat)) hj) ?_
    walk_at "fss"
    unfold rwP
    refine x_ix (map_at (d := (none, none)) ftP (by omega)) ?_
    walk_at "fss"
    refine x_ix (map_at (d := (none, none)) ftP (by omega)) ?_
    walk_at "fss"
    refine no_implicit_lambda% (Fn.mono (fn_head s (w.getD m []).length (r.getD m (none, none)) (o.getD m (none, none)) t) (fun q s' ⟨e1, e2⟩ => ?_) fun _ _ _ h => h.elim)
    subst e1 e2
    walk_at "fss"
    refine ⟨by rw [rgF_len]; exact small_line (by omega), rfl, ?_, rfl⟩
    rw [rgF_next]
    rfl
  · subst e1 e2 h1
    rw [List.length_map, List.length_range]
    walk_at "fss"
    exact ⟨rfl, rfl⟩
/-- how many cells of b lie ahead, by the number of first cells -/
def cnL (t : List Int) (b : Int) : List PV := rgF (t.length + 1) fun i => .int ((t.take i).count b : Nat)
theorem atI_last {xs : List PV} {x : PV} : atI (xs ++ [x]) (-1) = some x := by
  unfold atI ixN
  rw [List.length_append, List.length_singleton, if_neg (by omega), if_pos (by omega)]
  have e : (-1 + ((xs.length + 1 : Nat) : Int)).toNat = xs.length := by omega
  rw [e]
  show (xs ++ [x])[xs.length]? = some x
  rw [List.getElem?_append_right (Nat.le_refl _), Nat.sub_self]
  rfl
theorem count_next {t : List Int} {m : Nat} {a b : Int} (h : t[m]? = some a) : ((t.take (m + 1)).count b : Int) = ((t.take m).count b : Nat) + (if a = b then 1 else 0) := by
  rw [take_next h, List.count_append, List.count_singleton]
  by_cases e : a = b
  · subst e
    simp
  · simp [e]
theorem fn_counts_ahead (S : Stt) (t : List Int) (b : Int) (ht : t.length < 5000) : Fn (den_counts_ahead [tupI t, .int b] S) (fun q s => s = S ∧ q = .lst (cnL t b)) noR := by
  have hl := ints_len t
  unfold den_counts_ahead
  with_reducible refine fn_run ?_ ?_
  exact rfl
  unfold body_counts_ahead
  walk_at "fss"
  with_reducible refine wp_for ?_
  walk_at "fss"
  refine ⟨fun m e s => s = S ∧ ∃ x, e = [.val (tupI t), .val (.int b), .own (rgF (m + 1) fun i => .int ((t.take i).count b : Nat)), x], ⟨rfl, _, rfl⟩, fun m q e s hi ⟨e1, x, e2⟩ => ?_, fun e s ⟨e1, x, e2⟩ => ?_⟩
  · obtain ⟨a, ha, rfl⟩ := iL_get hi
    have hm : m < t.length := (List.getElem?_eq_some_iff.mp ha).1
    have key : ∀ k : Int, (a = b → k = 1) → (a ≠ b → k = 0) → PV.int (((t.take m).count b : Nat) + k) = .int ((t.take (m + 1)).count b : Nat) := fun k h1 h2 => by
      rw [count_next ha]
      by_cases e : a = b
      · rw [h1 e, if_pos e]
      · rw [h2 e, if_neg e]
    subst e1 e2
    walk_at "fss"
    refine ⟨_, _, _, rfl, rfl, show atI (rgF (m + 1) fun i => .int ((t.take i).count b : Nat)) (-1) = some (.int ((t.take m).count b : Nat)) from by rw [rgF_next]; exact atI_last, ?_⟩
    walk_at "fss"
    · rename_i he
      refine x_mfO rfl (app_ok (small_line (by rw [rgF_len]; omega))) ?_
      walk_at "fss"
      refine ⟨rfl, .val (.int a), ?_⟩
      rw [rgF_next (m + 1), ← key 1 (fun _ => rfl) (fun h => absurd he h)]
      rfl
    · rename_i he
      refine x_mfO rfl (app_ok (small_line (by rw [rgF_len]; omega))) ?_
      walk_at "fss"
      refine ⟨rfl, .val (.int a), ?_⟩
      rw [rgF_next (m + 1), ← key 0 (fun h => absurd h he) (fun _ => rfl)]
      rfl
  · subst e1 e2
    rw [hl]
    walk_at "fss"
    exact ⟨rfl, rfl⟩
theorem qMap_of {q : Env → PV → Option PV} {env : Env} : ∀ (ps rs : List PV), rs.length = ps.length → (∀ (i : Nat) (p : PV), ps[i]? = some p → ∃ r, rs[i]? = some r ∧ q env p = some r) → qMap q env ps = some rs
  | [], rs, h, _ => by
    rw [List.length_eq_zero_iff.mp h]
    rfl
  | p :: ps, [], h, _ => by cases h
  | p :: ps, r :: rs, h, hq => by
    obtain ⟨r', e1, e2⟩ := hq 0 p rfl
    have e3 : r = r' := by simpa using e1
    subst e3
    have ih := qMap_of ps rs (by simpa using h) fun i p hp => by
      obtain ⟨r', e3, e4⟩ := hq (i + 1) p (by simpa using hp)
      exact ⟨r', by simpa using e3, e4⟩
    unfold qMap
    rw [e2, ih]
def csL (w : Wv) (r o : List Ft) (t : Bool) (b : Int) : List Int := (List.range w.length).map fun i => (((w.getD i []).take (hdAt w r o t i)).count b : Nat)
def smV (w : Wv) (r o : List Ft) (t : Bool) (b : Int) : Int := (csL w r o t b).sum
theorem iL_rg (n : Nat) (f : Nat → Int) : iL ((List.range n).map f) = rgF n fun i => .int (f i) := by
  unfold iL rgF
  rw [List.map_map]
  rfl
theorem hdB_le (n : Nat) (f g : Ft) (t : Bool) : hdB n f g t ≤ n := by
  have h : ∀ (n : Nat) (a : Option Nat), woB n a ≤ n := fun n a => by
    cases a with
    | none => exact Nat.zero_le _
    | some k => exact Nat.sub_le _ _
  exact Nat.le_trans (h _ _) (h _ _)
def okW (n : Nat) (w : Wv) : Prop := w.length = n ∧ ∀ t ∈ w, t.length ≤ 1024 ∧ ∀ x ∈ t, (0 : Int) ≤ x ∧ x < 64
theorem okW.at {n : Nat} {w : Wv} (h : okW n w) (i : Nat) : (w.getD i []).length ≤ 1024 := by
  rw [List.getD_eq_getElem?_getD]
  cases q : w[i]? with
  | none => exact Nat.zero_le _
  | some t => exact (h.2 t (List.mem_of_getElem? q)).1
theorem csL_few {n : Nat} {w : Wv} (h : okW n w) (hn : n ≤ 8) (r o : List Ft) (t : Bool) (b : Int) : few (csL w r o t b) = true := by
  unfold few
  rw [Bool.and_eq_true, List.all_eq_true]
  refine ⟨fun c hc => ?_, decide_eq_true (by unfold csL; rw [List.length_map, List.length_range, h.1]; omega)⟩
  unfold csL at hc
  obtain ⟨i, _, rfl⟩ := List.mem_map.mp hc
  have h1 : ((w.getD i []).take (hdAt w r o t i)).count b ≤ ((w.getD i []).take (hdAt w r o t i)).length := List.count_le_length
  have h2 := h.at i
  rw [List.length_take] at h1
  rw [Bool.and_eq_true]
  exact ⟨decide_eq_true (by omega), decide_eq_true (by omega)⟩
def smR (w : Wv) (bk : List (List Ft)) (t : Bool) (b : Int) (r : List Ft) : List Int := bk.map fun o => smV w r o t b
def smP (w : Wv) (bk : List (List Ft)) (t : Bool) (b : Int) : PV := .tup (bk.map fun r => tupI (smR w bk t b r))
def okB (n : Nat) (bk : List (List Ft)) : Prop := bk ≠ [] ∧ bk.length ≤ 24 ∧ ∀ r ∈ bk, r.length = n ∧ ∀ f ∈ r, (∀ u, f.1 = some u → u ≤ 64) ∧ (∀ v, f.2 = some v → v ≤ 64)
theorem take_map {α β : Type} {xs : List α} {i : Nat} {d : α} (f : α → β) (h : i < xs.length) : (xs.map f).take (i + 1) = (xs.map f).take i ++ [f (xs.getD i d)] := by
  rw [List.take_succ, List.getElem?_map, List.getElem?_eq_getElem h, List.getD_eq_getElem?_getD, List.getElem?_eq_getElem h]
  rfl
end
end I
end FS
set_option Elab.async false
set_option linter.all false
set_option pp.maxSteps 700
set_option maxRecDepth 100000
set_option maxHeartbeats 8000000
namespace FS
open PySem L2
namespace I
section
local macro_rules | `(tactic| walk_at "okm") => `(tactic| first | (exact okMul_l (by omega)) | (exact okMul_r (by omega)) | decide)
local macro_rules | `(tactic| walk_at "fsW") => `(tactic| first
  | (with_reducible refine wp_useL ?_)
  | (with_reducible refine wp_lenL ?_)
  | (with_reducible refine wp_ixL ?_)
  | (with_reducible refine wp_mthL ?_)
  | ((with_reducible refine wp_gtupC ?_ ?_); exact rfl)
  | ((with_reducible refine wp_gtupZ ?_ ?_); exact rfl))
local macro_rules | `(tactic| walk_at "fsE") => `(tactic| first
  | ((with_reducible show ∃ ys, _ = some (Slot.own ys) ∧ _); refine x_own1 rfl ?_)
  | ((with_reducible refine x_mul ?_ ?_); (walk_at "okm"))
  | ((with_reducible refine x_div ?_ ?_ ?_); omega; omega)
  | ((with_reducible refine x_mod ?_ ?_); omega)
  | ((with_reducible refine x_pow ?_ ?_); decide)
  | ((with_reducible show ∃ k, _ = some (PV.bl k) ∧ _); refine x_chain rfl ?_)
  | ((with_reducible show ∃ n ys, _ = PV.ref n ∧ _ = some (SO.lst ys) ∧ _); refine x_mR rfl rfl ?_)
  | ((with_reducible show ∃ w, pIx _ _ _ = some w ∧ _); refine x_ix rfl ?_)
  | ((with_reducible show ∃ w, fLen _ _ = some w ∧ _); refine x_len rfl ?_)
  | ((with_reducible show ∃ w, fInt _ _ = some w ∧ _); refine x_int rfl ?_)
  | ((with_reducible refine x_isi (w := .bl true) ?_ ?_); exact rfl)
  | ((with_reducible refine x_isi (w := .bl false) ?_ ?_); exact rfl)
  | ((with_reducible show ∃ w, fTuple _ _ = some w ∧ _); refine x_tupf rfl ?_)
  | ((with_reducible show ∃ w, fMin _ _ = some w ∧ _); refine x_minf rfl ?_)
  | ((with_reducible show ∃ w, fMax _ _ = some w ∧ _); refine x_maxf rfl ?_)
  | ((with_reducible show ∃ w, pCut _ _ _ _ = some w ∧ _); refine x_pcut rfl ?_)
  | ((with_reducible show ∃ w, itemsOf _ _ = some w ∧ _); refine x_itm rfl ?_)
  | ((with_reducible show ∃ w, itemsF _ = some w ∧ _); refine x_itF rfl ?_)
  | ((with_reducible show ∃ i, _ = PV.int i ∧ _); refine x_part rfl ?_)
  | ((with_reducible show ∃ p q, _ = [p, q] ∧ _); refine x_par rfl ?_)
  | ((with_reducible show ∃ n xs j m, _ = PV.ref n ∧ _ = PV.int j ∧ _ ∧ _ ∧ _); refine x_setR rfl rfl rfl rfl ?_))
local macro_rules | `(tactic| walk_at "fsR") => `(tactic| first
  | ((with_reducible show Wp _ _ _); (walk_at "fsW"))
  | ((with_reducible show Exists _); (walk_at "fsE"))
  | ((with_reducible show LkS _ _ _); first | refine lks_v rfl ?_ | refine lks_o rfl ?_)
  | ((with_reducible show _ ≤ sizeLine ∧ _); refine x_low rfl ?_)
  | ((with_reducible show List.length _ = _ ∧ _); refine x_num rfl ?_))
local macro_rules | `(tactic| walk_at "fs1") => `(tactic| first | (with_reducible refine run1 ?_) | (walk_at "fsR"))
local macro_rules | `(tactic| walk_at "fs0") => `(tactic| first | (with_reducible refine stp1 ?_) | (walk_at "fsR"))
local macro_rules | `(tactic| walk_at "fs") => `(tactic| repeat (walk_at "fs1"))
local macro_rules | `(tactic| walk_at "fsp") => `(tactic| (with_reducible refine x_spl ?_ ?_) <;> (intro h; first | (simp only [Bool.not_true, Bool.not_false, reduceCtorEq, decide_eq_true_eq, decide_eq_false_iff_not, Bool.not_eq_true', Bool.not_eq_false', Bool.and_eq_true, Int.not_lt, Int.not_le, Bool.or_eq_true, Bool.and_eq_false_iff, Bool.or_eq_false_iff, Bool.false_and, Bool.true_and, Bool.or_false, Bool.false_or, beq_self_eq_true, Bool.true_or, List.isEmpty_nil, List.isEmpty_cons] at h) | skip))
local macro_rules | `(tactic| walk_at "fss") => `(tactic| repeat' (first | (walk_at "fs1") | (walk_at "fsp")))
/-! the law's own sums -/
theorem fn_law_greater (S : Stt) (a b : Option Nat) : Fn (den__law_greater [bdP a, bdP b] S) (fun q s => s = S ∧ q = bdP (gtB a b)) noR := by
  unfold den__law_greater
  with_reducible refine fn_run ?_ ?_
  exact rfl
  unfold body__law_greater
  rcases a with _ | a <;> rcases b with _ | b <;> simp only [bdP, gtB]
  · walk_at "fss"
    refine ⟨_, rfl, ?_⟩
    walk_at "fss"
    exact ⟨rfl, rfl⟩
  · walk_at "fss"
    refine ⟨_, rfl, ?_⟩
    walk_at "fss"
    exact ⟨rfl, rfl⟩
  · walk_at "fss"
    refine ⟨_, rfl, ?_⟩
    walk_at "fss"
    refine ⟨_, rfl, ?_⟩
    walk_at "fss"
    exact ⟨rfl, rfl⟩
  · walk_at "fss"
    refine ⟨_, rfl, ?_⟩
    walk_at "fss"
    refine ⟨_, rfl, ?_⟩
    walk_at "fss"
    refine ⟨rfl, congrArg PV.int ?_⟩
    split <;> omega
theorem fn_law_lesser (S : Stt) (a b : Option Nat) : Fn (den__law_lesser [bdP a, bdP b] S) (fun q s => s = S ∧ q = bdP (lsB a b)) noR := by
  unfold den__law_lesser
  with_reducible refine fn_run ?_ ?_
  exact rfl
  unfold body__law_lesser
  rcases a with _ | a <;> rcases b with _ | b <;> simp only [bdP, lsB]
  · walk_at "fss"
    refine ⟨_, rfl, ?_⟩
    walk_at "fss"
    refine ⟨_, rfl, ?_⟩
    walk_at "fss"
    exact ⟨rfl, rfl⟩
  · walk_at "fss"
    refine ⟨_, rfl, ?_⟩
    walk_at "fss"
    refine ⟨_, rfl, ?_⟩
    walk_at "fss"
    exact ⟨rfl, rfl⟩
  · walk_at "fss"
    refine ⟨_, rfl, ?_⟩
    walk_at "fss"
    refine ⟨_, rfl, ?_⟩
    walk_at "fss"
    refine ⟨_, rfl, ?_⟩
    walk_at "fss"
    exact ⟨rfl, rfl⟩
  · walk_at "fss"
    refine ⟨_, rfl, ?_⟩
    walk_at "fss"
    refine ⟨_, rfl, ?_⟩
    walk_at "fss"
    refine ⟨rfl, congrArg PV.int ?_⟩
    split <;> omega
theorem woB_zero (a : Option Nat) : woB 0 a = 0 := by
  cases a <;> simp [woB]
theorem fn_law_head (S : Stt) (n : Nat) (f g : Ft) (t : Bool) : Fn (den__law_head [ftP f, ftP g, .int n, .bl t] S) (fun q s => s = S ∧ q = .int (hdB n f g t)) noR := by
  unfold den__law_head
  with_reducible refine fn_run ?_ ?_
  exact rfl
  unfold body__law_head
  walk_at "fss"
  refine no_implicit_lambda% (Fn.mono (fn_law_greater S f.2 g.2) (fun q s' ⟨e1, e2⟩ => ?_) fun _ _ _ h => h.elim)
  subst e1 e2
  have h0 : hdB n f g t = woB (woB n (msB f g t)) (gtB f.2 g.2) := rfl
  rw [h0]
  generalize gtB f.2 g.2 = a
  cases t
  · have h1 : msB f g false = f.1 := rfl
    rw [h1]
    obtain ⟨u, v⟩ := f
    rcases a with _ | a <;> rcases u with _ | u <;> simp only [bdP]
    · walk_at "fss"
      refine ⟨_, rfl, ?_⟩
      walk_at "fss"
      exact ⟨rfl, rfl⟩
    · walk_at "fss"
      refine ⟨_, rfl, ?_⟩
      walk_at "fss"
      exact ⟨rfl, rfl⟩
    · walk_at "fss"
      refine ⟨_, rfl, ?_⟩
      walk_at "fss"
      refine ⟨_, rfl, ?_⟩
      walk_at "fss"
      exact ⟨rfl, by rw [show woB n (none, v).fst = 0 from rfl, woB_zero]; rfl⟩
    · walk_at "fss"
      refine ⟨_, rfl, ?_⟩
      walk_at "fss"
      refine ⟨_, rfl, ?_⟩
      walk_at "fss"
      refine ⟨_, rfl, ?_⟩
      walk_at "fss"
      refine ⟨rfl, congrArg PV.int ?_⟩
      show _ = ((n - u - a : Nat) : Int)
      split <;> omega
  · have h1 : msB f g true = lsB f.1 g.1 := rfl
    rw [h1]
    walk_at "fss"
    refine no_implicit_lambda% (Fn.mono (fn_law_lesser s' f.1 g.1) (fun q s ⟨e1, e2⟩ => ?_) fun _ _ _ h => h.elim)
    subst e1 e2
    generalize lsB f.1 g.1 = u
    rcases a with _ | a <;> rcases u with _ | u <;> simp only [bdP]
    · walk_at "fss"
      refine ⟨_, rfl, ?_⟩
      walk_at "fss"
      exact ⟨rfl, rfl⟩
    · walk_at "fss"
      refine ⟨_, rfl, ?_⟩
      walk_at "fss"
      exact ⟨rfl, rfl⟩
    · walk_at "fss"
      refine ⟨_, rfl, ?_⟩
      walk_at "fss"
      refine ⟨_, rfl, ?_⟩
      walk_at "fss"
      exact ⟨rfl, by rw [show woB n none = 0 from rfl, woB_zero]; rfl⟩
    · walk_at "fss"
      refine ⟨_, rfl, ?_⟩
      walk_at "fss"
      refine ⟨_, rfl, ?_⟩
      walk_at "fss"
      refine ⟨rfl, congrArg PV.int ?_⟩
      show _ = ((n - u - a : Nat) : Int)
      split <;> omega
theorem fn_law_sums (S : Stt) (n : Nat) (bk : List (List Ft)) (w : Wv) (t : Bool) (b : Int) (hn : n ≤ 8) (hw : okW n w) (hb : okB n bk) : Fn (den__law_sums [bkP bk, .bl t, wvP w, .int b] S) (fun q s => s = S ∧ q = smP w bk t b) noR := by
  have hwl := hw.1
  obtain ⟨hb0, hb1, hb2⟩ := hb
  have hwm : (enumL (w.map tupI)).length = w.length := by simp [enumL]
  have hbm : (bk.map rwP).length = bk.length := List.length_map ..
  unfold den__law_sums
  with_reducible refine fn_run ?_ ?_
  exact rfl
  unfold body__law_sums
  walk_at "fss"
  with_reducible refine wp_for ?_
  walk_at "fss"
  refine ⟨fun m e s => s = S ∧ ∃ (x5 x6 x7 x8 : Slot), e = [.val (bkP bk), .val (.bl t), .val (wvP w), .val (.int b), .own ((bk.map fun r => tupI (smR w bk t b r)).take m), x5, x6, x7, x8, .none, .none], ⟨rfl, _, _, _, _, rfl⟩, fun m q e s hi ⟨e1, x5, x6, x7, x8, e2⟩ => ?_, fun e s ⟨e1, x5, x6, x7, x8, e2⟩ => ?_⟩
  · obtain ⟨hm, rfl⟩ := map_get (d := []) hi
    generalize hr : bk.getD m [] = r at *
    have hrm : r ∈ bk := by
      rw [← hr, List.getD_eq_getElem?_getD, List.getElem?_eq_getElem hm]
      exact List.getElem_mem hm
    have hrl := (hb2 r hrm).1
    subst e1 e2
    walk_at "fss"
    with_reducible refine wp_for ?_
    walk_at "fss"
    refine ⟨fun j e s' => s' = s ∧ ∃ (x7 x8 : Slot), e = [.val (bkP bk), .val (.bl t), .val (wvP w), .val (.int b), .own ((bk.map fun r => tupI (smR w bk t b r)).take m), .val (rwP r), .own (iL ((smR w bk t b r).take j)), x7, x8, .none, .none], ⟨rfl, _, _, rfl⟩, fun j q e s' hi ⟨e1, x7, x8, e2⟩ => ?_, fun e s' ⟨e1, x7, x8, e2⟩ => ?_⟩
    · obtain ⟨hj, rfl⟩ := map_get (d := []) hi
      generalize ho : bk.getD j [] = o at *
      have hom : o ∈ bk := by
        rw [← ho, List.getD_eq_getElem?_getD, List.getElem?_eq_getElem hj]
        exact List.getElem_mem hj
      have hol := (hb2 o hom).1
      subst e1 e2
      walk_at "fss"
      with_reducible refine wp_comp ?_
      walk_at "fss"
      refine x_enum rfl ?_
      refine ⟨fun i acc e s => s = s' ∧ acc = rgF i (fun i => .int (hdAt w r o t i : Nat)) ∧ e = [.val (bkP bk), .val (.bl t), .val (wvP w), .val (.int b), .own ((bk.map fun r => tupI (smR w bk t b r)).take m), .val (rwP r), .own (iL ((smR w bk t b r).take j)), .val (rwP o), x8, .none, .none], ⟨rfl, rfl, rfl⟩, fun i q acc e s hi ⟨e1, h1, e2⟩ => ?_, fun acc e s ⟨e1, h1, e2⟩ => ?_⟩
      · obtain ⟨u, hu, rfl⟩ := enumL_get hi
        obtain ⟨hi2, rfl⟩ := map_get (d := []) hu
        subst e1 e2 h1
        walk_at "fss"
        unfold rwP
        refine x_ix (map_at (d := (none, none)) ftP (by omega)) ?_
        walk_at "fss"
        refine x_ix (map_at (d := (none, none)) ftP (by omega)) ?_
        walk_at "fss"
        rw [ints_len]
        refine no_implicit_lambda% (Fn.mono (fn_law_head s (w.getD i []).length (r.getD i (none, none)) (o.getD i (none, none)) t) (fun q s' ⟨e1, e2⟩ => ?_) fun _ _ _ h => h.elim)
        subst e1 e2
        walk_at "fss"
        refine ⟨by rw [rgF_len]; exact small_line (by omega), rfl, ?_, rfl⟩
        rw [rgF_next]
        rfl
      subst e1 e2 h1
      rw [hwm]
      walk_at "fss"
      with_reducible refine wp_comp ?_
      walk_at "fss"
      refine x_enum rfl ?_
      refine ⟨fun i acc e s' => s' = s ∧ acc = rgF i (fun i => .int (((w.getD i []).take (hdAt w r o t i)).count b : Nat)) ∧ e = [.val (bkP bk), .val (.bl t), .val (wvP w), .val (.int b), .own ((bk.map fun r => tupI (smR w bk t b r)).take m), .val (rwP r), .own (iL ((smR w bk t b r).take j)), .val (rwP o), .val (.lst (hdL w r o t)), .none, .none], ⟨rfl, rfl, rfl⟩, fun i q acc e s' hi ⟨e1, h1, e2⟩ => ?_, fun acc e s' ⟨e1, h1, e2⟩ => ?_⟩
      · obtain ⟨u, hu, rfl⟩ := enumL_get hi
        obtain ⟨hi2, rfl⟩ := map_get (d := []) hu
        subst e1 e2 h1
        walk_at "fss"
        refine x_ix (atI_nat (rgF_get hi2)) ?_
        walk_at "fss"
        refine ⟨_, (w.getD i []).take (hdAt w r o t i), rfl, by rw [cut_to, ints_take]; exact intsOf_map _, ?_⟩
        walk_at "fss"
        refine ⟨_, rfl, ?_⟩
        refine ⟨by rw [rgF_len]; exact small_line (by omega), rfl, ?_, rfl⟩
        rw [rgF_next]
      subst e1 e2 h1
      rw [hwm]
      walk_at "fss"
      have e7 : rgF w.length (fun i => PV.int (((w.getD i []).take (hdAt w r o t i)).count b : Nat)) = iL (csL w r o t b) := by
        unfold csL
        rw [iL_rg]
      rw [e7]
      refine x_sumL (intsOf_map _) ?_
      walk_at "fss"
      refine x_mfO rfl (app_ok (small_line (by rw [ints_len, List.length_take]; omega))) ?_
      walk_at "fss"
      refine ⟨rfl, .val (rwP o), .val (.lst (hdL w r o t)), ?_⟩
      have e9 : (smR w bk t b r).take (j + 1) = (smR w bk t b r).take j ++ [smV w r o t b] := by
        unfold smR
        rw [take_map (d := []) _ hj, ho]
      rw [e9, ← iL_app]
      rfl
    · subst e1 e2
      rw [hbm, show (smR w bk t b r).take bk.length = smR w bk t b r from List.take_of_length_le (by unfold smR; rw [List.length_map]; exact Nat.le_refl _)]
      walk_at "fss"
      refine x_mfO rfl (app_ok (small_line (by rw [List.length_take]; omega))) ?_
      walk_at "fss"
      refine ⟨rfl, .val (rwP r), .val (.lst (iL (smR w bk t b r))), x7, x8, ?_⟩
      rw [take_map (d := []) _ hm, hr]
      rfl
  · subst e1 e2
    rw [hbm, List.take_of_length_le (by rw [List.length_map]; exact Nat.le_refl _)]
    walk_at "fss"
    exact ⟨rfl, rfl⟩
end
end I
end FS
set_option Elab.async false
set_option linter.all false
set_option pp.maxSteps 700
set_option maxRecDepth 100000
set_option maxHeartbeats 8000000
namespace FS
open PySem L2
namespace I
section
local macro_rules | `(tactic| walk_at "okm") => `(tactic| first | (exact okMul_l (by omega)) | (exact okMul_r (by omega)) | decide)
local macro_rules | `(tactic| walk_at "fsW") => `(tactic| first
  | (with_reducible refine wp_useL ?_)
  | (with_reducible refine wp_lenL ?_)
  | (with_reducible refine wp_ixL ?_)
  | (with_reducible refine wp_mthL ?_)
  | ((with_reducible refine wp_gtupC ?_ ?_); exact rfl)
  | ((with_reducible refine wp_gtupZ ?_ ?_); exact rfl))
local macro_rules | `(tactic| walk_at "fsE") => `(tactic| first
  | ((with_reducible show ∃ ys, _ = some (Slot.own ys) ∧ _); refine x_own1 rfl ?_)
  | ((with_reducible refine x_mul ?_ ?_); (walk_at "okm"))
  | ((with_reducible refine x_div ?_ ?_ ?_); omega; omega)
  | ((with_reducible refine x_mod ?_ ?_); omega)
  | ((with_reducible refine x_pow ?_ ?_); decide)
  | ((with_reducible show ∃ k, _ = some (PV.bl k) ∧ _); refine x_chain rfl ?_)
  | ((with_reducible show ∃ n ys, _ = PV.ref n ∧ _ = some (SO.lst ys) ∧ _); refine x_mR rfl rfl ?_)
  | ((with_reducible show ∃ w, pIx _ _ _ = some w ∧ _); refine x_ix rfl ?_)
  | ((with_reducible show ∃ w, fLen _ _ = some w ∧ _); refine x_len rfl ?_)
  | ((with_reducible show ∃ w, fInt _ _ = some w ∧ _); refine x_int rfl ?_)
  | ((with_reducible refine x_isi (w := .bl true) ?_ ?_); exact rfl)
  | ((with_reducible refine x_isi (w := .bl false) ?_ ?_); exact rfl)
  | ((with_reducible show ∃ w, fTuple _ _ = some w ∧ _); refine x_tupf rfl ?_)
  | ((with_reducible show ∃ w, fMin _ _ = some w ∧ _); refine x_minf rfl ?_)
  | ((with_reducible show ∃ w, fMax _ _ = some w ∧ _); refine x_maxf rfl ?_)
  | ((with_reducible show ∃ w, pCut _ _ _ _ = some w ∧ _); refine x_pcut rfl ?_)
  | ((with_reducible show ∃ w, itemsOf _ _ = some w ∧ _); refine x_itm rfl ?_)
  | ((with_reducible show ∃ w, itemsF _ = some w ∧ _); refine x_itF rfl ?_)
  | ((with_reducible show ∃ i, _ = PV.int i ∧ _); refine x_part rfl ?_)
  | ((with_reducible show ∃ p q, _ = [p, q] ∧ _); refine x_par rfl ?_)
  | ((with_reducible show ∃ n xs j m, _ = PV.ref n ∧ _ = PV.int j ∧ _ ∧ _ ∧ _); refine x_setR rfl rfl rfl rfl ?_))
local macro_rules | `(tactic| walk_at "fsR") => `(tactic| first
  | ((with_reducible show Wp _ _ _); (walk_at "fsW"))
  | ((with_reducible show Exists _); (walk_at "fsE"))
  | ((with_reducible show LkS _ _ _); first | refine lks_v rfl ?_ | refine lks_o rfl ?_)
  | ((with_reducible show _ ≤ sizeLine ∧ _); refine x_low rfl ?_)
  | ((with_reducible show List.length _ = _ ∧ _); refine x_num rfl ?_))
local macro_rules | `(tactic| walk_at "fs1") => `(tactic| first | (with_reducible refine run1 ?_) | (walk_at "fsR"))
local macro_rules | `(tactic| walk_at "fs0") => `(tactic| first | (with_reducible refine stp1 ?_) | (walk_at "fsR"))
local macro_rules | `(tactic| walk_at "fs") => `(tactic| repeat (walk_at "fs1"))
local macro_rules | `(tactic| walk_at "fsp") => `(tactic| (with_reducible refine x_spl ?_ ?_) <;> (intro h; first | (simp only [Bool.not_true, Bool.not_false, reduceCtorEq, decide_eq_true_eq, decide_eq_false_iff_not, Bool.not_eq_true', Bool.not_eq_false', Bool.and_eq_true, Int.not_lt, Int.not_le, Bool.or_eq_true, Bool.and_eq_false_iff, Bool.or_eq_false_iff, Bool.false_and, Bool.true_and, Bool.or_false, Bool.false_or, beq_self_eq_true, Bool.true_or, List.isEmpty_nil, List.isEmpty_cons] at h) | skip))
local macro_rules | `(tactic| walk_at "fss") => `(tactic| repeat' (first | (walk_at "fs1") | (walk_at "fsp")))
local macro_rules | `(tactic| walk_at "fd1") => `(tactic| first
  | ((with_reducible apply go_draw); assumption; (first | omega | decide); (first | omega | decide); intro s' v hp hv0 hv1)
  | (walk_at "fs1") | (walk_at "fsp"))
local macro_rules | `(tactic| walk_at "fdi1") => `(tactic| first
  | ((with_reducible apply go_draw); assumption; (first | omega | decide); (first | omega | decide); intro s' v hp hv0 hv1)
  | (walk_at "fs0") | (walk_at "fsp"))
local macro_rules | `(tactic| walk_at "fd") => `(tactic| repeat' (walk_at "fd1"))
local macro_rules | `(tactic| walk_at "fdi") => `(tactic| repeat' ((fail_if_success (with_reducible show Wp (dSeq (dIf _ _ _) _ _ _) _ _)); (walk_at "fdi1")))
section
variable {rT : Stt}
/-! drawn books and weavings -/
theorem in_intsL (S : Stt) (y : Int) (xs : List Int) : pInA S (.int y) (.lst (iL xs)) = some (.bl (decide (y ∈ xs))) := by
  have h1 : okd 60 (.lst (iL xs)) = true := okd_intsT 59 xs
  have h2 : okd 60 (.int y) = true := rfl
  rw [← any_ints]
  unfold pInA pIn
  simp only [h1, h2, Bool.and_self, if_true]
  rfl
def okF (f : Ft) : Prop := (∀ u, f.1 = some u → u ≤ 64) ∧ (∀ v, f.2 = some v → v ≤ 64)
def okR (n : Nat) (r : List Ft) : Prop := r.length = n ∧ ∀ f ∈ r, okF f
theorem ok00 : okF (some 0, some 0) := ⟨fun u h => by cases h; decide, fun u h => by cases h; decide⟩
theorem snocR {m : Nat} {r : List Ft} {f : Ft} (h : okR m r) (hf : okF f) : okR (m + 1) (r ++ [f]) :=
  ⟨by rw [List.length_append, h.1]; rfl, fun g hg => by
    rcases List.mem_append.mp hg with q | q
    · exact h.2 g q
    · have : g = f := by simpa using q
      rw [this]
      exact hf⟩
theorem fn_law_bound (S : Stt) (hP : Pool rT S) : Fn (den__law_bound [.ref 1] S) (fun q s => Pool rT s ∧ ∃ a : Option Nat, q = bdP a ∧ ∀ u, a = some u → u ≤ 64) noR := by
  unfold den__law_bound
  with_reducible refine fn_run ?_ ?_
  exact rfl
  unfold body__law_bound
  walk_at "fss"
  refine no_implicit_lambda% (go_pick hP (by simp) (by simp) (fun s q hP hm => ?_))
  refine ⟨hP, ?_⟩
  simp only [List.mem_cons, List.not_mem_nil, or_false] at hm
  rcases hm with rfl | rfl | rfl | rfl | rfl | rfl | rfl | rfl
  · exact ⟨some 0, rfl, fun u h => by cases h; decide⟩
  · exact ⟨some 0, rfl, fun u h => by cases h; decide⟩
  · exact ⟨some 0, rfl, fun u h => by cases h; decide⟩
  · exact ⟨some 1, rfl, fun u h => by cases h; decide⟩
  · exact ⟨some 1, rfl, fun u h => by cases h; decide⟩
  · exact ⟨some 2, rfl, fun u h => by cases h; decide⟩
  · exact ⟨some 3, rfl, fun u h => by cases h; decide⟩
  · exact ⟨none, rfl, fun u h => by cases h⟩
theorem fn_law_row (S : Stt) (hP : Pool rT S) (n : Nat) (h1 : 1 ≤ n) (hn : n ≤ 8) : Fn (den__law_row [.ref 1, .int n] S) (fun q s => Pool rT s ∧ ∃ r, q = rwP r ∧ okR n r) noR := by
  unfold den__law_row
  with_reducible refine fn_run ?_ ?_
  exact rfl
  unfold body__law_row
  walk_at "fd"
  · with_reducible refine wp_comp ?_
    walk_at "fd"
    refine x_rng1 (by omega) (by omega) ?_
    rw [Int.toNat_natCast]
    refine ⟨fun m acc e s => Pool rT s ∧ (∃ r : List Ft, acc = r.map ftP ∧ okR m r) ∧ e = [.val (.ref 1), .val (.int n), .none, .none, .none], ⟨by assumption, ⟨[], rfl, rfl, fun f h => by cases h⟩, rfl⟩, fun m q acc e s hi ⟨hP, ⟨r, e1, hr⟩, e2⟩ => ?_, fun acc e s ⟨hP, ⟨r, e1, hr⟩, e2⟩ => ?_⟩
    · obtain ⟨hj, rfl⟩ := rng_get _ _ _ _ hi
      have hrl := hr.1
      have hml : (r.map ftP).length = r.length := List.length_map ..
      subst e1 e2
      walk_at "fd"
      refine no_implicit_lambda% (Fn.mono (fn_law_bound s hP) (fun q s ⟨hP, a, e1, ha⟩ => ?_) fun _ _ _ h => h.elim)
      subst e1
      walk_at "fd"
      refine no_implicit_lambda% (Fn.mono (fn_law_bound s hP) (fun q s ⟨hP, b, e1, hb⟩ => ?_) fun _ _ _ h => h.elim)
      subst e1
      walk_at "fd"
      exact ⟨small_line (by omega), hP, ⟨r ++ [(a, b)], by rw [List.map_append]; rfl, snocR hr ⟨ha, hb⟩⟩, rfl⟩
    · rw [List.length_map, List.length_range] at hr
      subst e1 e2
      walk_at "fd"
      exact ⟨hP, r, rfl, hr⟩
  · with_reducible refine wp_comp ?_
    walk_at "fd"
    rename_i s2 d hs2 d0 d1
    refine x_rng1 (by omega) (by omega) ?_
    refine ⟨fun m acc e s => Pool rT s ∧ (∃ l : List Int, acc = iL l ∧ l.length = m) ∧ e = [.val (.ref 1), .val (.int n), .none, .none, .none], ⟨by assumption, ⟨[], rfl, rfl⟩, rfl⟩, fun m q acc e s hi ⟨hP, ⟨r, e1, hr⟩, e2⟩ => ?_, fun acc e s ⟨hP, ⟨l, e1, hr⟩, e2⟩ => ?_⟩
    · obtain ⟨hj, rfl⟩ := rng_get _ _ _ _ hi
      have hml := ints_len r
      subst e1 e2
      walk_at "fd"
      rename_i s3 d' hs3 d0' d1'
      exact ⟨small_line (by omega), hs3, ⟨r ++ [d'], (iL_app r [d']), by rw [List.length_append, hr]; rfl⟩, rfl⟩
    · subst e1 e2
      walk_at "fd"
      with_reducible refine wp_comp ?_
      walk_at "fd"
      refine x_rng1 (by omega) (by omega) ?_
      rw [Int.toNat_natCast]
      refine ⟨fun m acc e s => Pool rT s ∧ (∃ r : List Ft, acc = r.map ftP ∧ okR m r) ∧ e = [.val (.ref 1), .val (.int n), .none, .val (.lst (iL l)), .none], ⟨by assumption, ⟨[], rfl, rfl, fun f h => by cases h⟩, rfl⟩, fun m q acc e s hi ⟨hP, ⟨r, e1, hr⟩, e2⟩ => ?_, fun acc e s ⟨hP, ⟨r, e1, hr⟩, e2⟩ => ?_⟩
      · obtain ⟨hj, rfl⟩ := rng_get _ _ _ _ hi
        have hrl := hr.1
        have hml : (r.map ftP).length = r.length := List.length_map ..
        subst e1 e2
        walk_at "fd"
        refine ⟨_, in_intsL _ _ _, ?_⟩
        walk_at "fd"
        · refine no_implicit_lambda% (Fn.mono (fn_law_bound s hP) (fun q s ⟨hP, a, e1, ha⟩ => ?_) fun _ _ _ h => h.elim)
          subst e1
          walk_at "fd"
          refine no_implicit_lambda% (Fn.mono (fn_law_bound s hP) (fun q s ⟨hP, b, e1, hb⟩ => ?_) fun _ _ _ h => h.elim)
          subst e1
          walk_at "fd"
          exact ⟨small_line (by omega), hP, ⟨r ++ [(a, b)], by rw [List.map_append]; rfl, snocR hr ⟨ha, hb⟩⟩, rfl⟩
        · exact ⟨small_line (by omega), hP, ⟨r ++ [(some 0, some 0)], by rw [List.map_append]; rfl, snocR hr ok00⟩, rfl⟩
      · rw [List.length_map, List.length_range] at hr
        subst e1 e2
        walk_at "fd"
        exact ⟨hP, r, rfl, hr⟩
theorem fn_law_book (S : Stt) (hP : Pool rT S) (n : Nat) (h1 : 1 ≤ n) (hn : n ≤ 8) : Fn (den__law_book [.ref 1, .int n] S) (fun q s => Pool rT s ∧ ∃ bk, q = bkP bk ∧ okB n bk ∧ bk.length ≤ 8) noR := by
  unfold den__law_book
  with_reducible refine fn_run ?_ ?_
  exact rfl
  unfold body__law_book
  walk_at "fd"
  · rename_i s2 d hs2 d0 d1 hd
    have hf : ∃ f : Ft, okF f ∧ atI [PV.tup [.non, .int 0], .tup [.int 0, .non]] d = some (ftP f) := by
      rcases (show d = 0 ∨ d = 1 by omega) with rfl | rfl
      · exact ⟨(none, some 0), ⟨fun u h => (by cases h), fun u h => by cases h; decide⟩, rfl⟩
      · exact ⟨(some 0, none), ⟨fun u h => (by cases h; decide), fun u h => by cases h⟩, rfl⟩
    obtain ⟨f, hf, hfe⟩ := hf
    refine x_ix hfe ?_
    walk_at "fd"
    with_reducible refine wp_comp ?_
    walk_at "fd"
    refine x_rng1 (by omega) (by omega) ?_
    rw [Int.toNat_natCast]
    refine ⟨fun m acc e s => Pool rT s ∧ (∃ bk : List (List Ft), acc = bk.map rwP ∧ bk.length = m ∧ ∀ r ∈ bk, okR n r) ∧ e = [.val (.ref 1), .val (.int n), .val (.int d), .val (ftP f), .none, .none, .none], ⟨by assumption, ⟨[], rfl, rfl, fun f h => by cases h⟩, rfl⟩, fun m q acc e s hi ⟨hP, ⟨bk, e1, hb, hr⟩, e2⟩ => ?_, fun acc e s ⟨hP, ⟨bk, e1, hb, hr⟩, e2⟩ => ?_⟩
    · obtain ⟨hj, rfl⟩ := rng_get _ _ _ _ hi
      have hml : (bk.map rwP).length = bk.length := List.length_map ..
      subst e1 e2
      walk_at "fd"
      with_reducible refine wp_comp ?_
      walk_at "fd"
      refine x_rng1 (by omega) (by omega) ?_
      rw [Int.toNat_natCast]
      refine ⟨fun i acc e s => Pool rT s ∧ (∃ r : List Ft, acc = r.map ftP ∧ okR i r) ∧ e = [.val (.ref 1), .val (.int n), .val (.int d), .val (ftP f), .none, .val (.int m), .none], ⟨by assumption, ⟨[], rfl, rfl, fun f h => by cases h⟩, rfl⟩, fun i q acc e s hi ⟨hP, ⟨r, e1, hr⟩, e2⟩ => ?_, fun acc e s ⟨hP, ⟨r, e1, hr'⟩, e2⟩ => ?_⟩
      · obtain ⟨hj, rfl⟩ := rng_get _ _ _ _ hi
        have hrl := hr.1
        have hml : (r.map ftP).length = r.length := List.length_map ..
        subst e1 e2
        walk_at "fd"
        · exact ⟨small_line (by omega), hP, ⟨r ++ [f], by rw [List.map_append]; rfl, snocR hr hf⟩, rfl⟩
        · exact ⟨small_line (by omega), hP, ⟨r ++ [(some 0, some 0)], by rw [List.map_append]; rfl, snocR hr ok00⟩, rfl⟩
      · rw [List.length_map, List.length_range] at hr'
        subst e1 e2
        walk_at "fd"
        refine ⟨small_line (by omega), hP, ⟨bk ++ [r], by rw [List.map_append]; rfl, by rw [List.length_append, hb]; rfl, fun r' h => ?_⟩, rfl⟩
        rcases List.mem_append.mp h with q | q
        · exact hr r' q
        · have : r' = r := by simpa using q
          rw [this]
          exact hr'
    · rw [List.length_map, List.length_range] at hb
      subst e1 e2
      walk_at "fd"
      refine ⟨hP, bk, rfl, ⟨fun h => ?_, by omega, hr⟩, by omega⟩
      rw [h] at hb
      simp at hb
      omega
  · with_reducible refine wp_comp ?_
    walk_at "fd"
    rename_i s2 d hs2 d0 d1 hd s3 c hs3 c0 c1
    refine x_rng1 (by omega) (by omega) ?_
    refine ⟨fun m acc e s => Pool rT s ∧ (∃ bk : List (List Ft), acc = bk.map rwP ∧ bk.length = m ∧ ∀ r ∈ bk, okR n r) ∧ e = [.val (.ref 1), .val (.int n), .val (.int d), .none, .none, .none, .none], ⟨by assumption, ⟨[], rfl, rfl, fun f h => by cases h⟩, rfl⟩, fun m q acc e s hi ⟨hP, ⟨bk, e1, hb, hr⟩, e2⟩ => ?_, fun acc e s ⟨hP, ⟨bk, e1, hb, hr⟩, e2⟩ => ?_⟩
    · obtain ⟨hj, rfl⟩ := rng_get _ _ _ _ hi
      have hml : (bk.map rwP).length = bk.length := List.length_map ..
      subst e1 e2
      walk_at "fd"
      refine no_implicit_lambda% (Fn.mono (fn_law_row s hP n h1 hn) (fun q s ⟨hP, r, e1, h⟩ => ?_) fun _ _ _ h => h.elim)
      subst e1
      walk_at "fd"
      refine ⟨small_line (by omega), hP, ⟨bk ++ [r], by rw [List.map_append]; rfl, by rw [List.length_append, hb]; rfl, fun r' h' => ?_⟩, rfl⟩
      rcases List.mem_append.mp h' with q | q
      · exact hr r' q
      · have : r' = r := by simpa using q
        rw [this]
        exact h
    · rw [List.length_map, List.length_range] at hb
      subst e1 e2
      walk_at "fd"
      refine ⟨hP, bk, rfl, ⟨fun h => ?_, by omega, hr⟩, by omega⟩
      rw [h] at hb
      simp at hb
      omega
end
end
end I
end FS
set_option Elab.async false
set_option linter.all false
set_option pp.maxSteps 700
set_option maxRecDepth 100000
set_option maxHeartbeats 8000000
namespace FS
open PySem L2
namespace I
section
local macro_rules | `(tactic| walk_at "okm") => `(tactic| first | (exact okMul_l (by omega)) | (exact okMul_r (by omega)) | decide)
local macro_rules | `(tactic| walk_at "fsW") => `(tactic| first
  | (with_reducible refine wp_useL ?_)
  | (with_reducible refine wp_lenL ?_)
  | (with_reducible refine wp_ixL ?_)
  | (with_reducible refine wp_mthL ?_)
  | ((with_reducible refine wp_gtupC ?_ ?_); exact rfl)
  | ((with_reducible refine wp_gtupZ ?_ ?_); exact rfl))
local macro_rules | `(tactic| walk_at "fsE") => `(tactic| first
  | ((with_reducible show ∃ ys, _ = some (Slot.own ys) ∧ _); refine x_own1 rfl ?_)
  | ((with_reducible refine x_mul ?_ ?_); (walk_at "okm"))
  | ((with_reducible refine x_div ?_ ?_ ?_); omega; omega)
  | ((with_reducible refine x_mod ?_ ?_); omega)
  | ((with_reducible refine x_pow ?_ ?_); decide)
  | ((with_reducible show ∃ k, _ = some (PV.bl k) ∧ _); refine x_chain rfl ?_)
  | ((with_reducible show ∃ n ys, _ = PV.ref n ∧ _ = some (SO.lst ys) ∧ _); refine x_mR rfl rfl ?_)
  | ((with_reducible show ∃ w, pIx _ _ _ = some w ∧ _); refine x_ix rfl ?_)
  | ((with_reducible show ∃ w, fLen _ _ = some w ∧ _); refine x_len rfl ?_)
  | ((with_reducible show ∃ w, fInt _ _ = some w ∧ _); refine x_int rfl ?_)
  | ((with_reducible refine x_isi (w := .bl true) ?_ ?_); exact rfl)
  | ((with_reducible refine x_isi (w := .bl false) ?_ ?_); exact rfl)
  | ((with_reducible show ∃ w, fTuple _ _ = some w ∧ _); refine x_tupf rfl ?_)
  | ((with_reducible show ∃ w, fMin _ _ = some w ∧ _); refine x_minf rfl ?_)
  | ((with_reducible show ∃ w, fMax _ _ = some w ∧ _); refine x_maxf rfl ?_)
  | ((with_reducible show ∃ w, pCut _ _ _ _ = some w ∧ _); refine x_pcut rfl ?_)
  | ((with_reducible show ∃ w, itemsOf _ _ = some w ∧ _); refine x_itm rfl ?_)
  | ((with_reducible show ∃ w, itemsF _ = some w ∧ _); refine x_itF rfl ?_)
  | ((with_reducible show ∃ i, _ = PV.int i ∧ _); refine x_part rfl ?_)
  | ((with_reducible show ∃ p q, _ = [p, q] ∧ _); refine x_par rfl ?_)
  | ((with_reducible show ∃ n xs j m, _ = PV.ref n ∧ _ = PV.int j ∧ _ ∧ _ ∧ _); refine x_setR rfl rfl rfl rfl ?_))
local macro_rules | `(tactic| walk_at "fsR") => `(tactic| first
  | ((with_reducible show Wp _ _ _); (walk_at "fsW"))
  | ((with_reducible show Exists _); (walk_at "fsE"))
  | ((with_reducible show LkS _ _ _); first | refine lks_v rfl ?_ | refine lks_o rfl ?_)
  | ((with_reducible show _ ≤ sizeLine ∧ _); refine x_low rfl ?_)
  | ((with_reducible show List.length _ = _ ∧ _); refine x_num rfl ?_))
local macro_rules | `(tactic| walk_at "fs1") => `(tactic| first | (with_reducible refine run1 ?_) | (walk_at "fsR"))
local macro_rules | `(tactic| walk_at "fs0") => `(tactic| first | (with_reducible refine stp1 ?_) | (walk_at "fsR"))
local macro_rules | `(tactic| walk_at "fs") => `(tactic| repeat (walk_at "fs1"))
local macro_rules | `(tactic| walk_at "fsp") => `(tactic| (with_reducible refine x_spl ?_ ?_) <;> (intro h; first | (simp only [Bool.not_true, Bool.not_false, reduceCtorEq, decide_eq_true_eq, decide_eq_false_iff_not, Bool.not_eq_true', Bool.not_eq_false', Bool.and_eq_true, Int.not_lt, Int.not_le, Bool.or_eq_true, Bool.and_eq_false_iff, Bool.or_eq_false_iff, Bool.false_and, Bool.true_and, Bool.or_false, Bool.false_or, beq_self_eq_true, Bool.true_or, List.isEmpty_nil, List.isEmpty_cons] at h) | skip))
local macro_rules | `(tactic| walk_at "fss") => `(tactic| repeat' (first | (walk_at "fs1") | (walk_at "fsp")))
/-! what the checks say -/
theorem bd_thb (a : Option Nat) : thb (bdP a) = true := by cases a <;> rfl
theorem ft_thb (f : Ft) : thb (ftP f) = true := thbs_of fun x hx => by
  simp only [List.mem_cons, List.not_mem_nil, or_false] at hx
  rcases hx with rfl | rfl <;> exact bd_thb _
theorem rw_thb (r : List Ft) : thb (rwP r) = true := thbs_of fun x hx => by
  obtain ⟨f, _, rfl⟩ := List.mem_map.mp hx
  exact ft_thb f
theorem rws_thb (bk : List (List Ft)) : thbs (bk.map rwP) = true := thbs_of fun x hx => by
  obtain ⟨f, _, rfl⟩ := List.mem_map.mp hx
  exact rw_thb f
theorem bd_okd (k : Nat) (a : Option Nat) : okd (k + 1) (bdP a) = true := by cases a <;> rfl
theorem ft_okd (k : Nat) (f : Ft) : okd (k + 2) (ftP f) = true := okd_tup fun x hx => by
  simp only [List.mem_cons, List.not_mem_nil, or_false] at hx
  rcases hx with rfl | rfl <;> exact bd_okd _ _
theorem rw_okd (k : Nat) (r : List Ft) : okd (k + 3) (rwP r) = true := okd_tup fun x hx => by
  obtain ⟨f, _, rfl⟩ := List.mem_map.mp hx
  exact ft_okd k f
theorem rws_okd (k : Nat) (bk : List (List Ft)) : okd (k + 4) (bkP bk) = true := okd_tup fun x hx => by
  obtain ⟨f, _, rfl⟩ := List.mem_map.mp hx
  exact rw_okd k f
theorem bd_is {a : Option Nat} (h : ∀ u, a = some u → u ≤ 64) : isBound (bdP a) = true := by
  cases a with
  | none => rfl
  | some u =>
    have := h u rfl
    show isBound (.int (u : Nat)) = true
    simp [isBound, isBelow]
    omega
theorem rw_is {n : Nat} {r : List Ft} (h : r.length = n ∧ ∀ f ∈ r, (∀ u, f.1 = some u → u ≤ 64) ∧ (∀ v, f.2 = some v → v ≤ 64)) : isRow n (rwP r) = true := by
  show (decide ((r.map ftP).length = n) && (r.map ftP).all isFate) = true
  rw [List.length_map, decide_eq_true h.1, Bool.true_and]
  refine List.all_eq_true.mpr fun x hx => ?_
  obtain ⟨f, hf, rfl⟩ := List.mem_map.mp hx
  show (isBound (bdP f.1) && isBound (bdP f.2)) = true
  rw [bd_is (h.2 f hf).1, bd_is (h.2 f hf).2]
  rfl
theorem rws_is {n : Nat} {bk : List (List Ft)} (h : okB n bk) : (bk.map rwP).all (isRow n) = true := List.all_eq_true.mpr fun x hx => by
  obtain ⟨r, hr, rfl⟩ := List.mem_map.mp hx
  exact rw_is (h.2.2 r hr)
theorem ints_thb (t : List Int) : thb (tupI t) = true := thbs_of fun x hx => by
  obtain ⟨f, _, rfl⟩ := List.mem_map.mp hx
  rfl
theorem tapes_thb (w : Wv) : thbs (w.map tupI) = true := thbs_of fun x hx => by
  obtain ⟨f, _, rfl⟩ := List.mem_map.mp hx
  exact ints_thb f
theorem tape_is {t : List Int} (h : t.length ≤ 1024 ∧ ∀ x ∈ t, (0 : Int) ≤ x ∧ x < 64) : isTape (tupI t) = true := by
  show (decide ((iL t).length ≤ 1024) && (iL t).all (isBelow 64)) = true
  rw [ints_len, decide_eq_true h.1, Bool.true_and]
  refine List.all_eq_true.mpr fun x hx => ?_
  obtain ⟨f, hf, rfl⟩ := List.mem_map.mp hx
  have := h.2 f hf
  show (decide (0 ≤ f) && decide (f < 64)) = true
  rw [decide_eq_true this.1, decide_eq_true this.2]
  rfl
theorem weaving_fine {n : Nat} {w : Wv} (h : okW n w) : fine n isTape (wvP w) := ⟨w.map tupI, rfl, by rw [List.length_map, h.1], List.all_eq_true.mpr fun x hx => by
  obtain ⟨t, ht, rfl⟩ := List.mem_map.mp hx
  exact tape_is (h.2 t ht)⟩
def isBl : PV → Bool
  | .bl _ => true
  | _ => false
theorem fn_told_any (S : Stt) (p : PV) (h : Th p) : Fn (den_check_told [p] S) (fun q s => s = S ∧ isBl p = true) (fun c w s => s = S ∧ c = "BadTold" ∧ w = p ∧ isBl p = false) := by
  unfold den_check_told
  with_reducible refine fn_run ?_ ?_
  exact rfl
  unfold body_check_told
  rcases h with ⟨n, rfl⟩ | ⟨b, rfl⟩ | rfl | ⟨x, rfl⟩ | ⟨xs, rfl⟩
  all_goals walk_at "fss"
  all_goals first | exact ⟨rfl, rfl⟩ | exact ⟨rfl, rfl, rfl, rfl⟩
/-- which check fails first -/
def Due (n : Nat) (rs : List PV) (t w : PV) (c : Str) (v : PV) : Prop :=
  (c = "BadBook" ∧ ∃ (i : Nat) (a : PV), v = .int i ∧ rs[i]? = some a ∧ isRow n a = false ∧ (rs.take i).all (isRow n) = true) ∨
  (rs.all (isRow n) = true ∧ c = "BadTold" ∧ v = t ∧ isBl t = false) ∨
  (rs.all (isRow n) = true ∧ isBl t = true ∧ c = "BadWeaving" ∧ ∃ i : Int, v = .int i ∧ bad n isTape w i)
theorem fn_checked (S : Stt) (p k : Int) (xs : List Int) (rs : List PV) (t w : PV) (hg : Gnd p k xs) (hr : thbs rs = true) (hk : okd 60 (.tup rs) = true) (hne : rs ≠ []) (hl : rs.length ≤ 24) (ht : Th t) (hw : thb w = true) :
    Fn (den_checked [gv p k xs, .tup rs, t, w] S) (fun q s => s = S ∧ rs.all (isRow xs.length) = true ∧ isBl t = true ∧ fine xs.length isTape w) (fun c v s => s = S ∧ Due xs.length rs t w c v) := by
  unfold den_checked
  with_reducible refine fn_run ?_ ?_
  exact rfl
  unfold body_checked
  walk_at "fss"
  refine no_implicit_lambda% (Fn.mono (fn_made_ground S p k xs hg) (fun q s ⟨e1, e2⟩ => ?_) fun _ _ _ h => h.elim)
  subst e1 e2
  walk_at "fss"
  refine no_implicit_lambda% (Fn.mono (fn_shelves s p k xs hg) (fun q s' ⟨e1, e2⟩ => ?_) fun _ _ _ h => h.elim)
  subst e1 e2
  walk_at "fss"
  refine no_implicit_lambda% (Fn.mono (fn_made_book s' xs.length rs hg.n1 hg.n2 hr hk hne hl) (fun q s ⟨e1, e2, h1⟩ => ?_) fun c v s ⟨e1, e2, h1⟩ => ⟨e1, .inl ⟨e2, h1⟩⟩)
  subst e1 e2
  walk_at "fss"
  refine no_implicit_lambda% (Fn.mono (fn_told_any s t ht) (fun q s' ⟨e1, h2⟩ => ?_) fun c v s ⟨e1, e2, h2⟩ => ⟨e1, .inr (.inl ⟨h1, e2, h2⟩)⟩)
  subst e1
  walk_at "fss"
  refine no_implicit_lambda% (Fn.mono (fn_made_weaving s' p k xs w hg hw) (fun q s ⟨e1, _, h3⟩ => ?_) fun c v s ⟨e1, e2, h3⟩ => ⟨e1, .inr (.inr ⟨h1, h2, e2, h3⟩)⟩)
  subst e1
  walk_at "fss"
  exact ⟨rfl, h1, h2, h3⟩
end
end I
end FS
set_option Elab.async false
set_option linter.all false
set_option pp.maxSteps 700
set_option maxRecDepth 100000
set_option maxHeartbeats 8000000
namespace FS
open PySem L2
namespace I
section
local macro_rules | `(tactic| walk_at "okm") => `(tactic| first | (exact okMul_l (by omega)) | (exact okMul_r (by omega)) | decide)
local macro_rules | `(tactic| walk_at "fsW") => `(tactic| first
  | (with_reducible refine wp_useL ?_)
  | (with_reducible refine wp_lenL ?_)
  | (with_reducible refine wp_ixL ?_)
  | (with_reducible refine wp_mthL ?_)
  | ((with_reducible refine wp_gtupC ?_ ?_); exact rfl)
  | ((with_reducible refine wp_gtupZ ?_ ?_); exact rfl))
local macro_rules | `(tactic| walk_at "fsE") => `(tactic| first
  | ((with_reducible show ∃ ys, _ = some (Slot.own ys) ∧ _); refine x_own1 rfl ?_)
  | ((with_reducible refine x_mul ?_ ?_); (walk_at "okm"))
  | ((with_reducible refine x_div ?_ ?_ ?_); omega; omega)
  | ((with_reducible refine x_mod ?_ ?_); omega)
  | ((with_reducible refine x_pow ?_ ?_); decide)
  | ((with_reducible show ∃ k, _ = some (PV.bl k) ∧ _); refine x_chain rfl ?_)
  | ((with_reducible show ∃ n ys, _ = PV.ref n ∧ _ = some (SO.lst ys) ∧ _); refine x_mR rfl rfl ?_)
  | ((with_reducible show ∃ w, pIx _ _ _ = some w ∧ _); refine x_ix rfl ?_)
  | ((with_reducible show ∃ w, fLen _ _ = some w ∧ _); refine x_len rfl ?_)
  | ((with_reducible show ∃ w, fInt _ _ = some w ∧ _); refine x_int rfl ?_)
  | ((with_reducible refine x_isi (w := .bl true) ?_ ?_); exact rfl)
  | ((with_reducible refine x_isi (w := .bl false) ?_ ?_); exact rfl)
  | ((with_reducible show ∃ w, fTuple _ _ = some w ∧ _); refine x_tupf rfl ?_)
  | ((with_reducible show ∃ w, fMin _ _ = some w ∧ _); refine x_minf rfl ?_)
  | ((with_reducible show ∃ w, fMax _ _ = some w ∧ _); refine x_maxf rfl ?_)
  | ((with_reducible show ∃ w, pCut _ _ _ _ = some w ∧ _); refine x_pcut rfl ?_)
  | ((with_reducible show ∃ w, itemsOf _ _ = some w ∧ _); refine x_itm rfl ?_)
  | ((with_reducible show ∃ w, itemsF _ = some w ∧ _); refine x_itF rfl ?_)
  | ((with_reducible show ∃ i, _ = PV.int i ∧ _); refine x_part rfl ?_)
  | ((with_reducible show ∃ p q, _ = [p, q] ∧ _); refine x_par rfl ?_)
  | ((with_reducible show ∃ n xs j m, _ = PV.ref n ∧ _ = PV.int j ∧ _ ∧ _ ∧ _); refine x_setR rfl rfl rfl rfl ?_))
local macro_rules | `(tactic| walk_at "fsR") => `(tactic| first
  | ((with_reducible show Wp _ _ _); (walk_at "fsW"))
  | ((with_reducible show Exists _); (walk_at "fsE"))
  | ((with_reducible show LkS _ _ _); first | refine lks_v rfl ?_ | refine lks_o rfl ?_)
  | ((with_reducible show _ ≤ sizeLine ∧ _); refine x_low rfl ?_)
  | ((with_reducible show List.length _ = _ ∧ _); refine x_num rfl ?_))
local macro_rules | `(tactic| walk_at "fs1") => `(tactic| first | (with_reducible refine run1 ?_) | (walk_at "fsR"))
local macro_rules | `(tactic| walk_at "fs0") => `(tactic| first | (with_reducible refine stp1 ?_) | (walk_at "fsR"))
local macro_rules | `(tactic| walk_at "fs") => `(tactic| repeat (walk_at "fs1"))
local macro_rules | `(tactic| walk_at "fsp") => `(tactic| (with_reducible refine x_spl ?_ ?_) <;> (intro h; first | (simp only [Bool.not_true, Bool.not_false, reduceCtorEq, decide_eq_true_eq, decide_eq_false_iff_not, Bool.not_eq_true', Bool.not_eq_false', Bool.and_eq_true, Int.not_lt, Int.not_le, Bool.or_eq_true, Bool.and_eq_false_iff, Bool.or_eq_false_iff, Bool.false_and, Bool.true_and, Bool.or_false, Bool.false_or, beq_self_eq_true, Bool.true_or, List.isEmpty_nil, List.isEmpty_cons] at h) | skip))
local macro_rules | `(tactic| walk_at "fss") => `(tactic| repeat' (first | (walk_at "fs1") | (walk_at "fsp")))
/-! events, and what they weave -/
abbrev Ev := Nat × Int
def okE (n : Nat) (E : List Ev) : Prop := ∀ e ∈ E, e.1 < n ∧ 0 ≤ e.2 ∧ e.2 < 64
theorem okE.take {n m : Nat} {E : List Ev} (h : okE n E) : okE n (E.take m) := fun e he => h e (List.mem_of_mem_take he)
theorem okE.get {n i : Nat} {E : List Ev} {e : Ev} (h : okE n E) (hi : E[i]? = some e) : e.1 < n ∧ 0 ≤ e.2 ∧ e.2 < 64 := h e (List.mem_of_getElem? hi)
/-! ### sums grow -/
theorem sum_le {α : Type} {f g : α → Int} : ∀ {l : List α}, (∀ i ∈ l, f i ≤ g i) → (l.map f).sum ≤ (l.map g).sum
  | [], _ => by simp
  | a :: l, h => by
    have h1 := h a (List.mem_cons_self ..)
    have h2 := sum_le (l := l) fun i hi => h i (List.mem_cons_of_mem _ hi)
    simp only [List.map_cons, List.sum_cons]
    omega
theorem woB_mono {n m : Nat} (h : n ≤ m) (a : Option Nat) : woB n a ≤ woB m a := by
  cases a with
  | none => exact Nat.le_refl _
  | some u =>
    show n - u ≤ m - u
    omega
theorem hdB_mono {n m : Nat} (h : n ≤ m) (f g : Ft) (t : Bool) : hdB n f g t ≤ hdB m f g t := woB_mono (woB_mono h _) _
/-! ### enough -/
def enB (w : Wv) (bk : List (List Ft)) (t : Bool) (b k : Int) : Bool := bk.all fun r => bk.all fun o => decide (k ≤ smV w r o t b)
theorem enB_iff {w : Wv} {bk : List (List Ft)} {t : Bool} {b k : Int} : enB w bk t b k = true ↔ ∀ r ∈ bk, ∀ o ∈ bk, k ≤ smV w r o t b := by
  simp [enB, List.all_eq_true]
def minO : List Int → Int
  | [] => 0
  | a :: l => minL a l
theorem le_minO {k : Int} {l : List Int} (h : l ≠ []) : k ≤ minO l ↔ ∀ y ∈ l, k ≤ y := by
  cases l with
  | nil => exact absurd rfl h
  | cons a l => exact ⟨fun hk y hy => Int.le_trans hk (minL_le l a y hy), fun hy => hy _ (minL_mem l a)⟩
def lsV (w : Wv) (bk : List (List Ft)) (t : Bool) (b : Int) : Int := minO (bk.map fun r => minO (smR w bk t b r))
theorem le_lsV {w : Wv} {bk : List (List Ft)} {t : Bool} {b k : Int} (hb : bk ≠ []) : k ≤ lsV w bk t b ↔ enB w bk t b k = true := by
  unfold lsV
  rw [le_minO (by simpa using hb), enB_iff]
  constructor
  · intro h r hr o ho
    have h1 := h _ (List.mem_map.mpr ⟨r, hr, rfl⟩)
    rw [le_minO (by unfold smR; simpa using hb)] at h1
    exact h1 _ (List.mem_map.mpr ⟨o, ho, rfl⟩)
  · intro h y hy
    obtain ⟨r, hr, rfl⟩ := List.mem_map.mp hy
    rw [le_minO (by unfold smR; simpa using hb)]
    intro y hy
    obtain ⟨o, ho, rfl⟩ := List.mem_map.mp hy
    exact h r hr o ho
theorem x_minT {s : Stt} {xs : List PV} {ns : List Int} {Q : PV → Prop} (h : intsOf xs = some ns) (hn : ns ≠ []) (hq : Q (.int (minO ns))) : ∃ w, fMinL s [.tup xs] = some w ∧ Q w := ⟨.int (minO ns), by
  cases ns with
  | nil => exact absurd rfl hn
  | cons a l =>
    unfold fMinL
    show (match intsOf xs with | some (a :: r) => some (PV.int (minL a r)) | _ => none) = _
    rw [h]
    rfl, hq⟩
theorem x_minLs {s : Stt} {xs : List PV} {ns : List Int} {Q : PV → Prop} (h : intsOf xs = some ns) (hn : ns ≠ []) (hq : Q (.int (minO ns))) : ∃ w, fMinL s [.lst xs] = some w ∧ Q w := ⟨.int (minO ns), by
  cases ns with
  | nil => exact absurd rfl hn
  | cons a l =>
    unfold fMinL
    show (match intsOf xs with | some (a :: r) => some (PV.int (minL a r)) | _ => none) = _
    rw [h]
    rfl, hq⟩
end
end I
end FS
set_option Elab.async false
set_option linter.all false
set_option pp.maxSteps 700
set_option maxRecDepth 100000
set_option maxHeartbeats 8000000
namespace FS
open PySem L2
namespace I
section
local macro_rules | `(tactic| walk_at "okm") => `(tactic| first | (exact okMul_l (by omega)) | (exact okMul_r (by omega)) | decide)
local macro_rules | `(tactic| walk_at "fsW") => `(tactic| first
  | (with_reducible refine wp_useL ?_)
  | (with_reducible refine wp_lenL ?_)
  | (with_reducible refine wp_ixL ?_)
  | (with_reducible refine wp_mthL ?_)
  | ((with_reducible refine wp_gtupC ?_ ?_); exact rfl)
  | ((with_reducible refine wp_gtupZ ?_ ?_); exact rfl))
local macro_rules | `(tactic| walk_at "fsE") => `(tactic| first
  | ((with_reducible show ∃ ys, _ = some (Slot.own ys) ∧ _); refine x_own1 rfl ?_)
  | ((with_reducible refine x_mul ?_ ?_); (walk_at "okm"))
  | ((with_reducible refine x_div ?_ ?_ ?_); omega; omega)
  | ((with_reducible refine x_mod ?_ ?_); omega)
  | ((with_reducible refine x_pow ?_ ?_); decide)
  | ((with_reducible show ∃ k, _ = some (PV.bl k) ∧ _); refine x_chain rfl ?_)
  | ((with_reducible show ∃ n ys, _ = PV.ref n ∧ _ = some (SO.lst ys) ∧ _); refine x_mR rfl rfl ?_)
  | ((with_reducible show ∃ w, pIx _ _ _ = some w ∧ _); refine x_ix rfl ?_)
  | ((with_reducible show ∃ w, fLen _ _ = some w ∧ _); refine x_len rfl ?_)
  | ((with_reducible show ∃ w, fInt _ _ = some w ∧ _); refine x_int rfl ?_)
  | ((with_reducible refine x_isi (w := .bl true) ?_ ?_); exact rfl)
  | ((with_reducible refine x_isi (w := .bl false) ?_ ?_); exact rfl)
  | ((with_reducible show ∃ w, fTuple _ _ = some w ∧ _); refine x_tupf rfl ?_)
  | ((with_reducible show ∃ w, fMin _ _ = some w ∧ _); refine x_minf rfl ?_)
  | ((with_reducible show ∃ w, fMax _ _ = some w ∧ _); refine x_maxf rfl ?_)
  | ((with_reducible show ∃ w, pCut _ _ _ _ = some w ∧ _); refine x_pcut rfl ?_)
  | ((with_reducible show ∃ w, itemsOf _ _ = some w ∧ _); refine x_itm rfl ?_)
  | ((with_reducible show ∃ w, itemsF _ = some w ∧ _); refine x_itF rfl ?_)
  | ((with_reducible show ∃ i, _ = PV.int i ∧ _); refine x_part rfl ?_)
  | ((with_reducible show ∃ p q, _ = [p, q] ∧ _); refine x_par rfl ?_)
  | ((with_reducible show ∃ n xs j m, _ = PV.ref n ∧ _ = PV.int j ∧ _ ∧ _ ∧ _); refine x_setR rfl rfl rfl rfl ?_))
local macro_rules | `(tactic| walk_at "fsR") => `(tactic| first
  | ((with_reducible show Wp _ _ _); (walk_at "fsW"))
  | ((with_reducible show Exists _); (walk_at "fsE"))
  | ((with_reducible show LkS _ _ _); first | refine lks_v rfl ?_ | refine lks_o rfl ?_)
  | ((with_reducible show _ ≤ sizeLine ∧ _); refine x_low rfl ?_)
  | ((with_reducible show List.length _ = _ ∧ _); refine x_num rfl ?_))
local macro_rules | `(tactic| walk_at "fs1") => `(tactic| first | (with_reducible refine run1 ?_) | (walk_at "fsR"))
local macro_rules | `(tactic| walk_at "fs0") => `(tactic| first | (with_reducible refine stp1 ?_) | (walk_at "fsR"))
local macro_rules | `(tactic| walk_at "fs") => `(tactic| repeat (walk_at "fs1"))
local macro_rules | `(tactic| walk_at "fsp") => `(tactic| (with_reducible refine x_spl ?_ ?_) <;> (intro h; first | (simp only [Bool.not_true, Bool.not_false, reduceCtorEq, decide_eq_true_eq, decide_eq_false_iff_not, Bool.not_eq_true', Bool.not_eq_false', Bool.and_eq_true, Int.not_lt, Int.not_le, Bool.or_eq_true, Bool.and_eq_false_iff, Bool.or_eq_false_iff, Bool.false_and, Bool.true_and, Bool.or_false, Bool.false_or, beq_self_eq_true, Bool.true_or, List.isEmpty_nil, List.isEmpty_cons] at h) | skip))
local macro_rules | `(tactic| walk_at "fss") => `(tactic| repeat' (first | (walk_at "fs1") | (walk_at "fsp")))
theorem fn_law_least (S : Stt) (w : Wv) (bk : List (List Ft)) (t : Bool) (b : Int) (hb : bk ≠ []) (hl : bk.length ≤ 24) : Fn (den__law_least [smP w bk t b] S) (fun q s => s = S ∧ q = .int (lsV w bk t b)) noR := by
  have hs : ∀ r, smR w bk t b r ≠ [] := fun r => by unfold smR; simpa using hb
  unfold den__law_least smP
  with_reducible refine fn_run ?_ ?_
  exact rfl
  unfold body__law_least
  walk_at "fss"
  with_reducible refine wp_comp ?_
  walk_at "fss"
  refine ⟨fun m acc e s => s = S ∧ acc = iL ((bk.map fun r => minO (smR w bk t b r)).take m) ∧ e = [.val (.tup (bk.map fun r => tupI (smR w bk t b r))), .none], ⟨rfl, rfl, rfl⟩, fun m q acc e s hi ⟨e1, h1, e2⟩ => ?_, fun acc e s ⟨e1, h1, e2⟩ => ?_⟩
  · obtain ⟨hm, rfl⟩ := map_get (d := []) hi
    subst e1 e2 h1
    walk_at "fss"
    refine x_minT (intsOf_map _) (hs _) ?_
    refine ⟨by rw [ints_len, List.length_take]; exact small_line (by omega), rfl, ?_, rfl⟩
    rw [take_map (d := []) _ hm, ← iL_app]
    rfl
  · subst e1 e2 h1
    rw [List.length_map, List.take_of_length_le (by rw [List.length_map]; exact Nat.le_refl _)]
    walk_at "fss"
    refine x_minLs (intsOf_map _) (by simpa using hb) ?_
    exact ⟨rfl, rfl⟩
end
end I
end FS
set_option Elab.async false
set_option linter.all false
set_option pp.maxSteps 700
set_option maxRecDepth 100000
set_option maxHeartbeats 8000000
namespace FS
open PySem L2
namespace I
section
local macro_rules | `(tactic| walk_at "okm") => `(tactic| first | (exact okMul_l (by omega)) | (exact okMul_r (by omega)) | decide)
local macro_rules | `(tactic| walk_at "fsW") => `(tactic| first
  | (with_reducible refine wp_useL ?_)
  | (with_reducible refine wp_lenL ?_)
  | (with_reducible refine wp_ixL ?_)
  | (with_reducible refine wp_mthL ?_)
  | ((with_reducible refine wp_gtupC ?_ ?_); exact rfl)
  | ((with_reducible refine wp_gtupZ ?_ ?_); exact rfl))
local macro_rules | `(tactic| walk_at "fsE") => `(tactic| first
  | ((with_reducible show ∃ ys, _ = some (Slot.own ys) ∧ _); refine x_own1 rfl ?_)
  | ((with_reducible refine x_mul ?_ ?_); (walk_at "okm"))
  | ((with_reducible refine x_div ?_ ?_ ?_); omega; omega)
  | ((with_reducible refine x_mod ?_ ?_); omega)
  | ((with_reducible refine x_pow ?_ ?_); decide)
  | ((with_reducible show ∃ k, _ = some (PV.bl k) ∧ _); refine x_chain rfl ?_)
  | ((with_reducible show ∃ n ys, _ = PV.ref n ∧ _ = some (SO.lst ys) ∧ _); refine x_mR rfl rfl ?_)
  | ((with_reducible show ∃ w, pIx _ _ _ = some w ∧ _); refine x_ix rfl ?_)
  | ((with_reducible show ∃ w, fLen _ _ = some w ∧ _); refine x_len rfl ?_)
  | ((with_reducible show ∃ w, fInt _ _ = some w ∧ _); refine x_int rfl ?_)
  | ((with_reducible refine x_isi (w := .bl true) ?_ ?_); exact rfl)
  | ((with_reducible refine x_isi (w := .bl false) ?_ ?_); exact rfl)
  | ((with_reducible show ∃ w, fTuple _ _ = some w ∧ _); refine x_tupf rfl ?_)
  | ((with_reducible show ∃ w, fMin _ _ = some w ∧ _); refine x_minf rfl ?_)
  | ((with_reducible show ∃ w, fMax _ _ = some w ∧ _); refine x_maxf rfl ?_)
  | ((with_reducible show ∃ w, pCut _ _ _ _ = some w ∧ _); refine x_pcut rfl ?_)
  | ((with_reducible show ∃ w, itemsOf _ _ = some w ∧ _); refine x_itm rfl ?_)
  | ((with_reducible show ∃ w, itemsF _ = some w ∧ _); refine x_itF rfl ?_)
  | ((with_reducible show ∃ i, _ = PV.int i ∧ _); refine x_part rfl ?_)
  | ((with_reducible show ∃ p q, _ = [p, q] ∧ _); refine x_par rfl ?_)
  | ((with_reducible show ∃ n xs j m, _ = PV.ref n ∧ _ = PV.int j ∧ _ ∧ _ ∧ _); refine x_setR rfl rfl rfl rfl ?_))
local macro_rules | `(tactic| walk_at "fsR") => `(tactic| first
  | ((with_reducible show Wp _ _ _); (walk_at "fsW"))
  | ((with_reducible show Exists _); (walk_at "fsE"))
  | ((with_reducible show LkS _ _ _); first | refine lks_v rfl ?_ | refine lks_o rfl ?_)
  | ((with_reducible show _ ≤ sizeLine ∧ _); refine x_low rfl ?_)
  | ((with_reducible show List.length _ = _ ∧ _); refine x_num rfl ?_))
local macro_rules | `(tactic| walk_at "fs1") => `(tactic| first | (with_reducible refine run1 ?_) | (walk_at "fsR"))
local macro_rules | `(tactic| walk_at "fs0") => `(tactic| first | (with_reducible refine stp1 ?_) | (walk_at "fsR"))
local macro_rules | `(tactic| walk_at "fs") => `(tactic| repeat (walk_at "fs1"))
local macro_rules | `(tactic| walk_at "fsp") => `(tactic| (with_reducible refine x_spl ?_ ?_) <;> (intro h; first | (simp only [Bool.not_true, Bool.not_false, reduceCtorEq, decide_eq_true_eq, decide_eq_false_iff_not, Bool.not_eq_true', Bool.not_eq_false', Bool.and_eq_true, Int.not_lt, Int.not_le, Bool.or_eq_true, Bool.and_eq_false_iff, Bool.or_eq_false_iff, Bool.false_and, Bool.true_and, Bool.or_false, Bool.false_or, beq_self_eq_true, Bool.true_or, List.isEmpty_nil, List.isEmpty_cons] at h) | skip))
local macro_rules | `(tactic| walk_at "fss") => `(tactic| repeat' (first | (walk_at "fs1") | (walk_at "fsp")))
theorem qIx_at {qa qb : Env → PV → Option PV} {e : Env} {p r : PV} {xs : List PV} {i : Nat} (ha : qa e p = some (.lst xs)) (hb : qb e p = some (.int (i : Nat))) (h : xs[i]? = some r) (hi : i < 1000000) : qIx qa qb e p = some r := by
  unfold qIx
  rw [ha, hb]
  show (if (0 : Int) ≤ (i : Int) ∧ (i : Int) < 1000000 then xs[((i : Int)).toNat]? else none) = _
  rw [if_pos ⟨by omega, by omega⟩, Int.toNat_natCast, h]
theorem cnL_get {t : List Int} {b : Int} {i : Nat} (h : i ≤ t.length) : (cnL t b)[i]? = some (.int ((t.take i).count b : Nat)) := rgF_get (by omega)
def cnLs (w : Wv) (b : Int) : List PV := w.map fun t => .lst (cnL t b)
/-! ### done -/
theorem eqvAll_iL : ∀ xs ys : List Int, PyData.eqvAll (toDs (iL xs)) (toDs (iL ys)) = decide (xs = ys)
  | [], [] => rfl
  | [], y :: ys => by simp [iL, toDs, PyData.eqvAll]
  | x :: xs, [] => by simp [iL, toDs, PyData.eqvAll]
  | x :: xs, y :: ys => by
    have ih := eqvAll_iL xs ys
    show (PyData.eqv (PV.int x).toD (PV.int y).toD && PyData.eqvAll (toDs (iL xs)) (toDs (iL ys))) = _
    rw [ih, show PyData.eqv (PV.int x).toD (PV.int y).toD = decide (x = y) from eqv_int]
    simp
theorem eqv_lI (xs ys : List Int) : eqv (.lst (iL xs)) (.lst (iL ys)) = decide (xs = ys) := by
  rw [← eqvAll_iL]
  simp [eqv, PV.toD, PyData.eqv]
def lI (x : List Int) : PV := .lst (iL x)
theorem okd_lI (x : List Int) : okd 59 (lI x) = true := by
  have := okd_intsT 58 x
  unfold tupI at this
  unfold lI
  unfold okd at this ⊢
  exact this
theorem any_lI (y : List Int) : ∀ L : List (List Int), (L.map lI).any (fun z => eqv z (lI y)) = decide (y ∈ L)
  | [] => rfl
  | x :: L => by
    rw [List.map_cons, List.any_cons, any_lI y L, show eqv (lI x) (lI y) = decide (x = y) from eqv_lI x y, Bool.eq_iff_iff, Bool.or_eq_true, decide_eq_true_eq, decide_eq_true_eq, decide_eq_true_eq, List.mem_cons]
    exact ⟨fun h => h.imp Eq.symm id, fun h => h.imp Eq.symm id⟩
theorem inL_lI {y : List Int} {L : List (List Int)} : inL true (lI y) (L.map lI) = some (.bl (!decide (y ∈ L))) := by
  unfold inL
  rw [show okd 60 (lI y) = true from okd_ints y, show okd 60 (.lst (L.map lI)) = true from List.all_eq_true.mpr fun p hp => by
    obtain ⟨x, _, rfl⟩ := List.mem_map.mp hp
    exact okd_lI x]
  show some (PV.bl (!(L.map lI).any fun z => eqv z (lI y))) = _
  rw [any_lI]
def hdI (w : Wv) (r o : List Ft) (t : Bool) : List Int := (List.range w.length).map fun i => (hdAt w r o t i : Nat)
theorem hdI_L (w : Wv) (r o : List Ft) (t : Bool) : PV.lst (hdL w r o t) = lI (hdI w r o t) := by
  unfold lI hdI
  rw [iL_rg]
  rfl
def hdSound (w : Wv) (bk : List (List Ft)) (t : Bool) (L : List (List Int)) : Prop := ∀ x ∈ L, ∃ r ∈ bk, ∃ o ∈ bk, x = hdI w r o t
theorem take_in {α : Type} {xs : List α} {m : Nat} {d a : α} (h : m < xs.length) (ha : a ∈ xs.take (m + 1)) : a ∈ xs.take m ∨ a = xs.getD m d := by
  rw [take_next (a := xs.getD m d) (by rw [List.getElem?_eq_getElem h, List.getD_eq_getElem?_getD, List.getElem?_eq_getElem h]; rfl)] at ha
  rcases List.mem_append.mp ha with h | h
  · exact .inl h
  · exact .inr (by simpa using h)
/-- a weaving, as a tuple or as a shared list -/
def IsWv (S : Stt) (q : PV) (w : Wv) : Prop := q = wvP w ∨ ∃ r, q = .ref r ∧ S[r]? = some (.lst (w.map tupI))
theorem wp_compW {i : Nat} {own : List Nat} {g : PV → Cd Unit} {t : Cd Bool} {d : Cd PV} {QL : Pq (List PV)} {e : Env} {s : Stt} {R : Pr} {w : Wv} {q : PV} (hq : IsWv s q w) (he : e[i]? = some (.val q)) (I : Nat → List PV → Env → Prop) (h0 : I 0 [] (wipeE e own))
    (h1 : ∀ (n : Nat) (acc : List PV) (e : Env), n < w.length → I n acc e → Wp (g (tupI (w.getD n [])) e s) (fun _ e s' => Wp (t e s') (fun k e s' => (k = true → Wp (d e s') (fun x e s' => acc.length < sizeLine ∧ s' = s ∧ I (n + 1) (acc ++ [x]) (wipeE e own)) (fun _ _ _ _ => False)) ∧ (k = false → s' = s ∧ I (n + 1) acc (wipeE e own))) (fun _ _ _ _ => False)) (fun _ _ _ _ => False))
    (h2 : ∀ acc e2, I w.length acc e2 → QL acc (restE e e2 own) s) : Wp (dAlt (isRf i) (dCompR (dUse i) own g t d) (dComp (dItems (dUse i)) own g t d) e s) QL R := by
  have hwm : (w.map tupI).length = w.length := List.length_map ..
  have turn : ∀ (n : Nat) (p : PV) (acc : List PV) (e : Env) (s' : Stt), (w.map tupI)[n]? = some p → s' = s ∧ I n acc e → Wp (g p e s') (fun _ e s' => Wp (t e s') (fun k e s' => (k = true → Wp (d e s') (fun x e s' => acc.length < sizeLine ∧ s' = s ∧ I (n + 1) (acc ++ [x]) (wipeE e own)) (fun _ _ _ _ => False)) ∧ (k = false → s' = s ∧ I (n + 1) acc (wipeE e own))) (fun _ _ _ _ => False)) (fun _ _ _ _ => False) := fun n p acc e s' hi ⟨e1, hI⟩ => by
    obtain ⟨hm, rfl⟩ := map_get (d := []) hi
    subst e1
    exact h1 n acc e hm hI
  rcases hq with rfl | ⟨r, rfl, hr⟩
  · refine wp_altN he (fun k h => by cases h) ?_
    refine wp_comp (wp_items (wp_use he ⟨w.map tupI, rfl, fun n acc e s' => s' = s ∧ I n acc e, ⟨rfl, h0⟩, turn, fun acc e2 s' ⟨e1, h⟩ => ?_⟩))
    subst e1
    rw [hwm] at h
    exact h2 acc e2 h
  · refine wp_altR he ?_
    refine wp_compR (wp_use he ⟨r, w.map tupI, rfl, hr, fun n acc e s' => s' = s ∧ I n acc e, ⟨rfl, h0⟩, fun n acc e s' ⟨e1, _⟩ => by rw [e1]; exact hr, turn, fun acc e2 s' ⟨e1, h⟩ => ?_⟩)
    subst e1
    rw [hwm] at h
    exact h2 acc e2 h
theorem fn_unlike_heads (S : Stt) (n : Nat) (bk : List (List Ft)) (w : Wv) (t : Bool) (hn : n ≤ 8) (hw : okW n w) (hb : okB n bk) (W : PV) (hW : IsWv S W w) : Fn (den_unlike_heads [bkP bk, .bl t, W] S) (fun q s => s = S ∧ ∃ L : List (List Int), q = .lst (L.map lI) ∧ L.length ≤ 1000 ∧ hdSound w bk t L ∧ ∀ r ∈ bk, ∀ o ∈ bk, hdI w r o t ∈ L) noR := by
  have hwl := hw.1
  obtain ⟨hb0, hb1, hb2⟩ := hb
  have hwm : (w.map tupI).length = w.length := List.length_map ..
  have hbm : (bk.map rwP).length = bk.length := List.length_map ..
  unfold den_unlike_heads
  with_reducible refine fn_run ?_ ?_
  exact rfl
  unfold body_unlike_heads
  walk_at "fss"
  refine no_implicit_lambda% (wp_compW hW rfl (fun m acc e => acc = (lnL w).take m ∧ e = [.val (bkP bk), .val (.bl t), .val W, .none, .none, .none, .none, .none, .none]) ⟨rfl, rfl⟩ (fun m acc e hm ⟨h1, e2⟩ => ?_) (fun acc e ⟨h1, e2⟩ => ?_))
  · subst e2 h1
    walk_at "fss"
    refine ⟨by rw [List.length_take]; exact small_line (by omega), rfl, ?_, rfl⟩
    unfold lnL
    rw [take_map (d := []) _ hm, ints_len]
  subst e2 h1
  rw [List.take_of_length_le (by unfold lnL; rw [List.length_map]; exact Nat.le_refl _)]
  walk_at "fss"
  with_reducible refine wp_for ?_
  walk_at "fss"
  refine ⟨fun m e s' => s' = S ∧ ∃ (L : List (List Int)) (x6 x7 x8 : Slot), e = [.val (bkP bk), .val (.bl t), .val W, .val (.lst (lnL w)), .own (L.map lI), .none, x6, x7, x8] ∧ hdSound w bk t L ∧ (∀ r ∈ bk.take m, ∀ o ∈ bk, hdI w r o t ∈ L) ∧ L.length ≤ m * 24, ⟨rfl, [], _, _, _, rfl, fun x h => (by cases h), fun r h => (by cases h), by simp⟩, fun m q e s' hi ⟨e1, L, x6, x7, x8, e2, h1, h2, h3⟩ => ?_, fun e s' ⟨e1, L, x6, x7, x8, e2, h1, h2, h3⟩ => ?_⟩
  · obtain ⟨hm, rfl⟩ := map_get (d := []) hi
    generalize hr : bk.getD m [] = r at *
    have hrm : r ∈ bk := by
      rw [← hr, List.getD_eq_getElem?_getD, List.getElem?_eq_getElem hm]
      exact List.getElem_mem hm
    subst e1 e2
    walk_at "fss"
    with_reducible refine wp_for ?_
    walk_at "fss"
    refine ⟨fun j e s => s = s' ∧ ∃ (L : List (List Int)) (x7 x8 : Slot), e = [.val (bkP bk), .val (.bl t), .val W, .val (.lst (lnL w)), .own (L.map lI), .none, .val (rwP r), x7, x8] ∧ hdSound w bk t L ∧ (∀ r ∈ bk.take m, ∀ o ∈ bk, hdI w r o t ∈ L) ∧ (∀ o ∈ bk.take j, hdI w r o t ∈ L) ∧ L.length ≤ m * 24 + j, ⟨rfl, L, _, _, rfl, h1, h2, fun r h => (by cases h), h3⟩, fun j q e s hi ⟨e1, L, x7, x8, e2, h1, h2, h3, h4⟩ => ?_, fun e s ⟨e1, L, x7, x8, e2, h1, h2, h3, h4⟩ => ?_⟩
    · obtain ⟨hj, rfl⟩ := map_get (d := []) hi
      have hoj : ∀ o ∈ bk.take (j + 1), o ∈ bk.take j ∨ o = bk.getD j [] := fun o h => take_in hj h
      generalize ho : bk.getD j [] = o at *
      have hom : o ∈ bk := by
        rw [← ho, List.getD_eq_getElem?_getD, List.getElem?_eq_getElem hj]
        exact List.getElem_mem hj
      subst e1 e2
      walk_at "fss"
      refine no_implicit_lambda% (Fn.mono (fn_heads s w r o t (by rw [(hb2 r hrm).1, hwl]) (by rw [(hb2 o hom).1, hwl]) (by omega)) (fun q s' ⟨e1, e2⟩ => ?_) fun _ _ _ h => h.elim)
      rw [hdI_L] at e2
      subst e1 e2
      walk_at "fss"
      refine .inl ⟨_, _, rfl, inL_lI, ?_⟩
      walk_at "fss"
      · rename_i hc
        refine x_mfO rfl (app_ok (small_line (by rw [List.length_map]; omega))) ?_
        walk_at "fss"
        refine ⟨rfl, L ++ [hdI w r o t], .val (rwP o), .val (lI (hdI w r o t)), ?_, fun x hx => ?_, fun r' hr' o' ho' => List.mem_append_left _ (h2 r' hr' o' ho'), fun o' ho' => ?_, by rw [List.length_append, List.length_singleton]; omega⟩
        · rw [List.map_append]
          rfl
        · rcases List.mem_append.mp hx with h | h
          · exact h1 x h
          · exact ⟨r, hrm, o, hom, by simpa using h⟩
        · rcases hoj o' ho' with h | h
          · exact List.mem_append_left _ (h3 o' h)
          · subst h
            exact List.mem_append_right _ (List.mem_singleton.mpr rfl)
      · rename_i hc
        have hc : hdI w r o t ∈ L := by simpa using hc
        refine ⟨rfl, L, _, _, rfl, h1, h2, fun o' ho' => ?_, by omega⟩
        rcases hoj o' ho' with h | h
        · exact h3 o' h
        · rw [h]
          exact hc
    · have hrj : ∀ r' ∈ bk.take (m + 1), r' ∈ bk.take m ∨ r' = r := fun r' h => by
        have := take_in (d := []) hm h
        rwa [hr] at this
      subst e1 e2
      rw [hbm] at h3 h4
      rw [List.take_of_length_le (Nat.le_refl _)] at h3
      refine ⟨rfl, L, _, _, _, rfl, h1, fun r' hr' o ho => ?_, by omega⟩
      rcases hrj r' hr' with h | h
      · exact h2 r' h o ho
      · rw [h]
        exact h3 o ho
  · subst e1 e2
    rw [hbm] at h2 h3
    rw [List.take_of_length_le (Nat.le_refl _)] at h2
    walk_at "fss"
    exact ⟨rfl, L, rfl, by omega, h1, h2⟩
/-- the entry of a list of heads -/
def enL (w : Wv) (b : Int) (x : List Int) : List Int := (List.range w.length).map fun i => (((w.getD i []).take (x.getD i 0).toNat).count b : Nat)
theorem hdI_get {w : Wv} {r o : List Ft} {t : Bool} {i : Nat} (h : i < w.length) : (hdI w r o t)[i]? = some (hdAt w r o t i : Int) := by
  unfold hdI
  rw [List.getElem?_map, List.getElem?_range h]
  rfl
theorem enL_hd (w : Wv) (r o : List Ft) (t : Bool) (b : Int) : enL w b (hdI w r o t) = csL w r o t b := by
  unfold enL csL
  refine List.map_congr_left fun i hi => ?_
  rw [getD_some (hdI_get (List.mem_range.mp hi)), Int.toNat_natCast]
theorem getD_mem {α : Type} {xs : List α} {i : Nat} {d : α} (h : i < xs.length) : xs.getD i d ∈ xs := by
  rw [List.getD_eq_getElem?_getD, List.getElem?_eq_getElem h]
  exact List.getElem_mem h
theorem fn_safe_among (S : Stt) (n : Nat) (bk : List (List Ft)) (w : Wv) (t : Bool) (k : Int) (B : List Int) (hn : n ≤ 8) (hw : okW n w) (hb : okB n bk) (hB : B.length ≤ 64) (W : PV) (hW : IsWv S W w) : Fn (den_safe_among [.int k, bkP bk, .bl t, W, .lst (iL B)] S) (fun q s => s = S ∧ q = .lst (iL (B.filter fun b => enB w bk t b k))) noR := by
  have hwl := hw.1
  have hwm : (w.map tupI).length = w.length := List.length_map ..
  have hBl := ints_len B
  unfold den_safe_among
  with_reducible refine fn_run ?_ ?_
  exact rfl
  unfold body_safe_among
  walk_at "fss"
  refine no_implicit_lambda% (Fn.mono (fn_unlike_heads S n bk w t hn hw hb W hW) (fun q s ⟨e1, L, e2, hL, hs, hc⟩ => ?_) fun _ _ _ h => h.elim)
  subst e1 e2
  have hL0 : L ≠ [] := fun z => by
    obtain ⟨r, hr⟩ := List.exists_mem_of_ne_nil _ hb.1
    have := hc r hr r hr
    rw [z] at this
    cases this
  have hLm : (L.map lI).length = L.length := List.length_map ..
  walk_at "fss"
  with_reducible refine wp_for ?_
  walk_at "fss"
  refine ⟨fun m e s' => s' = s ∧ ∃ (x7 x8 x10 : Slot), e = [.val (.int k), .val (bkP bk), .val (.bl t), .val W, .val (.lst (iL B)), .val (.lst (L.map lI)), .own (iL ((B.take m).filter fun b => enB w bk t b k)), x7, x8, .none, x10, .none], ⟨rfl, _, _, _, rfl⟩, fun m q e s' hi ⟨e1, x7, x8, x10, e2⟩ => ?_, fun e s' ⟨e1, x7, x8, x10, e2⟩ => ?_⟩
  · obtain ⟨b, hbm, rfl⟩ := iL_get hi
    have hm : m < B.length := (List.getElem?_eq_some_iff.mp hbm).1
    subst e1 e2
    walk_at "fss"
    refine no_implicit_lambda% (wp_compW hW rfl (fun j acc e => acc = (cnLs w b).take j ∧ e = [.val (.int k), .val (bkP bk), .val (.bl t), .val W, .val (.lst (iL B)), .val (.lst (L.map lI)), .own (iL ((B.take m).filter fun b => enB w bk t b k)), .val (.int b), x8, .none, x10, .none]) ⟨rfl, rfl⟩ (fun j acc e hj ⟨h1, e2⟩ => ?_) (fun acc e ⟨h1, e2⟩ => ?_))
    · subst e2 h1
      walk_at "fss"
      refine no_implicit_lambda% (Fn.mono (fn_counts_ahead s' (w.getD j []) b (Nat.lt_of_le_of_lt (hw.at j) (by decide))) (fun q s ⟨e1, e2⟩ => ?_) fun _ _ _ h => h.elim)
      subst e1 e2
      walk_at "fss"
      refine ⟨by rw [List.length_take]; exact small_line (by omega), rfl, ?_, rfl⟩
      unfold cnLs
      rw [take_map (d := []) _ hj]
    subst e2 h1
    rw [show (cnLs w b).take w.length = cnLs w b from List.take_of_length_le (by unfold cnLs; rw [List.length_map]; exact Nat.le_refl _)]
    walk_at "fss"
    with_reducible refine wp_comp ?_
    walk_at "fss"
    refine ⟨fun j acc e s => s = s' ∧ acc = iL ((L.map fun x => (enL w b x).sum).take j) ∧ e = [.val (.int k), .val (bkP bk), .val (.bl t), .val W, .val (.lst (iL B)), .val (.lst (L.map lI)), .own (iL ((B.take m).filter fun b => enB w bk t b k)), .val (.int b), .val (.lst (cnLs w b)), .none, x10, .none], ⟨rfl, rfl, rfl⟩, fun j q acc e s hi ⟨e1, h1, e2⟩ => ?_, fun acc e s ⟨e1, h1, e2⟩ => ?_⟩
    · obtain ⟨hj, rfl⟩ := map_get (d := []) hi
      obtain ⟨r, hr, o, ho, hx⟩ := hs _ (getD_mem (d := []) hj)
      have e9 : (L.map fun x => (enL w b x).sum).take (j + 1) = (L.map fun x => (enL w b x).sum).take j ++ [(csL w r o t b).sum] := by
        rw [take_map (d := []) _ hj, hx, enL_hd]
      rw [hx]
      subst e1 e2 h1
      unfold lI
      walk_at "fss"
      have hxl : (iL (hdI w r o t)).length = w.length := by rw [ints_len]; unfold hdI; simp
      rw [hxl]
      refine x_rng1 (by omega) (by omega) ?_
      rw [Int.toNat_natCast]
      refine ⟨_, csL w r o t b, qMap_of _ (iL (csL w r o t b)) ?_ (fun i p hp => ?_), intsOf_map _, csL_few hw hn r o t b, ?_⟩
      · rw [ints_len]
        unfold csL
        rw [List.length_map, List.length_range, List.length_map, List.length_range]
      · obtain ⟨hi2, rfl⟩ := rng_get _ _ _ _ hp
        refine ⟨.int (((w.getD i []).take (hdAt w r o t i)).count b : Nat), ?_, ?_⟩
        · unfold csL
          rw [iL_rg, rgF_get hi2]
        · refine qIx_at (xs := cnL (w.getD i []) b) (i := hdAt w r o t i) (qIx_at (xs := cnLs w b) (i := i) rfl rfl ?_ (by omega)) (qIx_at (xs := iL (hdI w r o t)) (i := i) rfl rfl ?_ (by omega)) (cnL_get (hdB_le _ _ _ _)) ?_
          · unfold cnLs
            rw [List.getElem?_map, List.getElem?_eq_getElem hi2, List.getD_eq_getElem?_getD, List.getElem?_eq_getElem hi2]
            rfl
          · show (List.map PV.int (hdI w r o t))[i]? = _
            rw [List.getElem?_map, hdI_get hi2]
            rfl
          · have h1 := hdB_le (w.getD i []).length (r.getD i (none, none)) (o.getD i (none, none)) t
            have h2 := hw.at i
            show hdB (w.getD i []).length (r.getD i (none, none)) (o.getD i (none, none)) t < 1000000
            omega
      refine ⟨by rw [ints_len, List.length_take]; exact small_line (by omega), rfl, ?_, rfl⟩
      rw [e9, ← iL_app]
      rfl
    subst e1 e2 h1
    rw [hLm, show (L.map fun x => (enL w b x).sum).take L.length = L.map fun x => (enL w b x).sum from List.take_of_length_le (by rw [List.length_map]; exact Nat.le_refl _)]
    walk_at "fss"
    refine x_minLs (intsOf_map _) (by simpa using hL0) ?_
    have hE : k ≤ minO (L.map fun x => (enL w b x).sum) ↔ enB w bk t b k = true := by
      rw [le_minO (by simpa using hL0), enB_iff]
      constructor
      · intro h r hr o ho
        have := h _ (List.mem_map.mpr ⟨_, hc r hr o ho, rfl⟩)
        rw [enL_hd] at this
        exact this
      · intro h y hy
        obtain ⟨x, hx, rfl⟩ := List.mem_map.mp hy
        obtain ⟨r, hr, o, ho, rfl⟩ := hs x hx
        rw [enL_hd]
        exact h r hr o ho
    have hfl : ((B.take m).filter fun b => enB w bk t b k).length ≤ m := Nat.le_trans (List.length_filter_le _ _) (by rw [List.length_take]; exact Nat.min_le_left _ _)
    walk_at "fss"
    · rename_i hk
      refine x_mfO rfl (app_ok (small_line (by rw [ints_len]; omega))) ?_
      walk_at "fss"
      refine ⟨rfl, .val (.int b), .val (.lst (cnLs w b)), .val (.lst (iL (L.map fun x => (enL w b x).sum))), ?_⟩
      rw [take_next hbm, List.filter_append, show [b].filter (fun b => enB w bk t b k) = [b] by simp [hE.mp hk], ← iL_app]
      rfl
    · rename_i hk
      refine ⟨rfl, .val (.int b), .val (.lst (cnLs w b)), .val (.lst (iL (L.map fun x => (enL w b x).sum))), ?_⟩
      rw [take_next hbm, List.filter_append, show [b].filter (fun b => enB w bk t b k) = [] by
        have : enB w bk t b k = false := by
          cases q : enB w bk t b k with
          | false => rfl
          | true => exact absurd (hE.mpr q) (by omega)
        simp [this], List.append_nil]
      rfl
  · subst e1 e2
    rw [hBl, List.take_of_length_le (Nat.le_refl _)]
    walk_at "fss"
    exact ⟨rfl, rfl⟩
theorem rowsI_map : ∀ w : Wv, rowsI (w.map tupI) = some w
  | [] => rfl
  | t :: w => by
    rw [List.map_cons]
    unfold tupI rowsI
    have h2 : intsOf (iL t) = some t := intsOf_map t
    rw [h2, show rowsI (w.map fun xs => PV.tup (iL xs)) = some w from rowsI_map w]
theorem fn_met (S : Stt) (w : Wv) (h : (srtI w.flatten).length < 64) (W : PV) (hW : IsWv S W w) : Fn (den_met [W] S) (fun q s => s = S ∧ q = .lst (iL (srtI w.flatten))) noR := by
  unfold den_met
  with_reducible refine fn_run ?_ ?_
  exact rfl
  unfold body_met
  walk_at "fss"
  rcases hW with rfl | ⟨r, rfl, hr⟩
  · refine wp_altN rfl (fun k h => by cases h) ?_
    with_reducible refine wp_met ?_
    walk_at "fss"
    exact ⟨w, rowsI_map w, ⟨h, by simp, by simp, by simp⟩, rfl, rfl⟩
  · refine wp_altR rfl ?_
    with_reducible refine wp_metR ?_
    walk_at "fss"
    exact ⟨r, w.map tupI, w, rfl, hr, rowsI_map w, ⟨h, by simp, by simp, by simp⟩, rfl, rfl⟩
/-- what is done -/
def dnL (w : Wv) (bk : List (List Ft)) (t : Bool) (k : Int) : List Int := (srtI w.flatten).filter fun b => enB w bk t b k
theorem fn_done {p k : Int} {xs : List Int} {bk : List (List Ft)} (hg : Gnd p k xs) (hb : okB xs.length bk) (S : Stt) (w : Wv) (t : Bool) (hw : okW xs.length w) (h64 : (srtI w.flatten).length < 64) : Fn (den_done [gv p k xs, bkP bk, .bl t, wvP w] S) (fun q s => s = S ∧ q = tupI (dnL w bk t k)) noR := by
  unfold den_done
  with_reducible refine fn_run ?_ ?_
  exact rfl
  unfold body_done
  walk_at "fss"
  refine no_implicit_lambda% (Fn.mono (fn_checked S p k xs (bk.map rwP) (.bl t) (wvP w) hg (rws_thb bk) (rws_okd 56 bk) (fun h => hb.1 (List.map_eq_nil_iff.mp h)) (by rw [List.length_map]; exact hb.2.1) (.inr (.inl ⟨t, rfl⟩)) (tapes_thb w)) (fun q s ⟨e1, _⟩ => ?_) fun c v s ⟨_, h⟩ => ?_)
  · subst e1
    walk_at "fss"
    refine no_implicit_lambda% (Fn.mono (fn_met s w h64 _ (.inl rfl)) (fun q s' ⟨e1, e2⟩ => ?_) fun _ _ _ h => h.elim)
    subst e1 e2
    walk_at "fss"
    refine no_implicit_lambda% (Fn.mono (fn_safe_among s' xs.length bk w t k (srtI w.flatten) hg.n2 hw hb (by omega) _ (.inl rfl)) (fun q s ⟨e1, e2⟩ => ?_) fun _ _ _ h => h.elim)
    subst e1 e2
    walk_at "fss"
    exact ⟨rfl, rfl⟩
  · rcases h with ⟨_, i, a, _, h1, h2, _⟩ | ⟨_, _, _, h⟩ | ⟨_, _, _, i, _, h⟩
    · have := List.all_eq_true.mp (rws_is hb) a (List.mem_of_getElem? h1)
      rw [h2] at this
      cases this
    · cases h
    · exact fine_bad (weaving_fine hw) h
/-- batches below a bound: few -/
theorem ris_len : ∀ (l : List Int) (a n : Nat), l.Pairwise (· < ·) → (∀ x ∈ l, (a : Int) ≤ x ∧ x < (n : Nat)) → l.length ≤ n - a
  | [], _, _, _, _ => Nat.zero_le _
  | x :: l, a, n, h, hx => by
    obtain ⟨h1, h2⟩ := List.pairwise_cons.mp h
    have h3 := hx x List.mem_cons_self
    have := ris_len l (a + 1) n h2 fun y hy => ⟨by have := h1 y hy; omega, (hx y (List.mem_cons_of_mem _ hy)).2⟩
    rw [List.length_cons]
    omega
theorem srtI_few {w : Wv} {n : Nat} (h : ∀ t ∈ w, ∀ x ∈ t, (0 : Int) ≤ x ∧ x < (n : Nat)) : (srtI w.flatten).length ≤ n := by
  have := ris_len (srtI w.flatten) 0 n (srtI_all _).1 fun x hx => by
    obtain ⟨t, ht, hx⟩ := List.mem_flatten.mp (((srtI_all _).2 x).mp hx)
    exact h t ht x hx
  omega
end
end I
end FS
set_option Elab.async false
set_option linter.all false
set_option pp.maxSteps 700
set_option maxRecDepth 100000
set_option maxHeartbeats 8000000
namespace FS
open PySem L2
namespace I
section
local macro_rules | `(tactic| walk_at "okm") => `(tactic| first | (exact okMul_l (by omega)) | (exact okMul_r (by omega)) | decide)
local macro_rules | `(tactic| walk_at "fsW") => `(tactic| first
  | (with_reducible refine wp_useL ?_)
  | (with_reducible refine wp_lenL ?_)
  | (with_reducible refine wp_ixL ?_)
  | (with_reducible refine wp_mthL ?_)
  | ((with_reducible refine wp_gtupC ?_ ?_); exact rfl)
  | ((with_reducible refine wp_gtupZ ?_ ?_); exact rfl))
local macro_rules | `(tactic| walk_at "fsE") => `(tactic| first
  | ((with_reducible show ∃ ys, _ = some (Slot.own ys) ∧ _); refine x_own1 rfl ?_)
  | ((with_reducible refine x_mul ?_ ?_); (walk_at "okm"))
  | ((with_reducible refine x_div ?_ ?_ ?_); omega; omega)
  | ((with_reducible refine x_mod ?_ ?_); omega)
  | ((with_reducible refine x_pow ?_ ?_); decide)
  | ((with_reducible show ∃ k, _ = some (PV.bl k) ∧ _); refine x_chain rfl ?_)
  | ((with_reducible show ∃ n ys, _ = PV.ref n ∧ _ = some (SO.lst ys) ∧ _); refine x_mR rfl rfl ?_)
  | ((with_reducible show ∃ w, pIx _ _ _ = some w ∧ _); refine x_ix rfl ?_)
  | ((with_reducible show ∃ w, fLen _ _ = some w ∧ _); refine x_len rfl ?_)
  | ((with_reducible show ∃ w, fInt _ _ = some w ∧ _); refine x_int rfl ?_)
  | ((with_reducible refine x_isi (w := .bl true) ?_ ?_); exact rfl)
  | ((with_reducible refine x_isi (w := .bl false) ?_ ?_); exact rfl)
  | ((with_reducible show ∃ w, fTuple _ _ = some w ∧ _); refine x_tupf rfl ?_)
  | ((with_reducible show ∃ w, fMin _ _ = some w ∧ _); refine x_minf rfl ?_)
  | ((with_reducible show ∃ w, fMax _ _ = some w ∧ _); refine x_maxf rfl ?_)
  | ((with_reducible show ∃ w, pCut _ _ _ _ = some w ∧ _); refine x_pcut rfl ?_)
  | ((with_reducible show ∃ w, itemsOf _ _ = some w ∧ _); refine x_itm rfl ?_)
  | ((with_reducible show ∃ w, itemsF _ = some w ∧ _); refine x_itF rfl ?_)
  | ((with_reducible show ∃ i, _ = PV.int i ∧ _); refine x_part rfl ?_)
  | ((with_reducible show ∃ p q, _ = [p, q] ∧ _); refine x_par rfl ?_)
  | ((with_reducible show ∃ n xs j m, _ = PV.ref n ∧ _ = PV.int j ∧ _ ∧ _ ∧ _); refine x_setR rfl rfl rfl rfl ?_))
local macro_rules | `(tactic| walk_at "fsR") => `(tactic| first
  | ((with_reducible show Wp _ _ _); (walk_at "fsW"))
  | ((with_reducible show Exists _); (walk_at "fsE"))
  | ((with_reducible show LkS _ _ _); first | refine lks_v rfl ?_ | refine lks_o rfl ?_)
  | ((with_reducible show _ ≤ sizeLine ∧ _); refine x_low rfl ?_)
  | ((with_reducible show List.length _ = _ ∧ _); refine x_num rfl ?_))
local macro_rules | `(tactic| walk_at "fs1") => `(tactic| first | (with_reducible refine run1 ?_) | (walk_at "fsR"))
local macro_rules | `(tactic| walk_at "fs0") => `(tactic| first | (with_reducible refine stp1 ?_) | (walk_at "fsR"))
local macro_rules | `(tactic| walk_at "fs") => `(tactic| repeat (walk_at "fs1"))
local macro_rules | `(tactic| walk_at "fsp") => `(tactic| (with_reducible refine x_spl ?_ ?_) <;> (intro h; first | (simp only [Bool.not_true, Bool.not_false, reduceCtorEq, decide_eq_true_eq, decide_eq_false_iff_not, Bool.not_eq_true', Bool.not_eq_false', Bool.and_eq_true, Int.not_lt, Int.not_le, Bool.or_eq_true, Bool.and_eq_false_iff, Bool.or_eq_false_iff, Bool.false_and, Bool.true_and, Bool.or_false, Bool.false_or, beq_self_eq_true, Bool.true_or, List.isEmpty_nil, List.isEmpty_cons] at h) | skip))
local macro_rules | `(tactic| walk_at "fss") => `(tactic| repeat' (first | (walk_at "fs1") | (walk_at "fsp")))
/-! ### a clerk -/
def clF (gP bP : PV) (r : Nat) (sn un : List Int) : List (Str × PV) := [("ground", gP), ("book", bP), ("tapes", .ref r), ("safe_now", .lst (iL sn)), ("unsafe", .lst (iL un))]
structure Clk (S : Stt) (o r : Nat) (gP bP : PV) (w : Wv) (sn un : List Int) : Prop where
  ob : S[o]? = some (.ins "Clerk" (clF gP bP r sn un))
  tp : S[r]? = some (.lst (w.map tupI))
/-- nothing else changes -/
def Off (S s : Stt) (o r : Nat) : Prop := s.length = S.length ∧ ∀ j, j ≠ o → j ≠ r → s[j]? = S[j]?
theorem Off.refl (S : Stt) (o r : Nat) : Off S S o r := ⟨rfl, fun _ _ _ => rfl⟩
theorem Off.trans {A B C : Stt} {o r : Nat} (h : Off A B o r) (k : Off B C o r) : Off A C o r := ⟨k.1.trans h.1, fun j h1 h2 => (k.2 j h1 h2).trans (h.2 j h1 h2)⟩
section
variable {S : Stt} {o r : Nat} {gP bP : PV} {w : Wv} {sn un : List Int}
theorem Clk.ne (h : Clk S o r gP bP w sn un) : o ≠ r := fun e => by
  have h1 := h.ob
  rw [e, h.tp] at h1
  cases h1
theorem getset {s : Stt} {i j : Nat} {x : SO} (h : i ≠ j) : (s.set i x)[j]? = s[j]? := by
  rw [List.getElem?_set, if_neg h]
theorem getset_same {s : Stt} {i : Nat} {x y : SO} (h : s[i]? = some y) : (s.set i x)[i]? = some x := by
  rw [List.getElem?_set, if_pos rfl, if_pos (List.getElem?_eq_some_iff.mp h).1]
theorem Clk.tape (h : Clk S o r gP bP w sn un) (w' : Wv) : Clk (S.set r (.lst (w'.map tupI))) o r gP bP w' sn un ∧ Off S (S.set r (.lst (w'.map tupI))) o r :=
  ⟨⟨by rw [getset h.ne.symm]; exact h.ob, getset_same h.tp⟩, List.length_set .., fun j h1 h2 => getset h2.symm⟩
theorem Clk.unsf (h : Clk S o r gP bP w sn un) (un' : List Int) : Clk (S.set o (.ins "Clerk" (putP' "unsafe" (.lst (iL un')) (clF gP bP r sn un)))) o r gP bP w sn un' ∧ Off S (S.set o (.ins "Clerk" (putP' "unsafe" (.lst (iL un')) (clF gP bP r sn un)))) o r :=
  ⟨⟨getset_same h.ob, by rw [getset h.ne]; exact h.tp⟩, List.length_set .., fun j h1 h2 => getset h1.symm⟩
theorem Clk.safe (h : Clk S o r gP bP w sn un) (sn' : List Int) : Clk (S.set o (.ins "Clerk" (putP' "safe_now" (.lst (iL sn')) (clF gP bP r sn un)))) o r gP bP w sn' un ∧ Off S (S.set o (.ins "Clerk" (putP' "safe_now" (.lst (iL sn')) (clF gP bP r sn un)))) o r :=
  ⟨⟨getset_same h.ob, by rw [getset h.ne]; exact h.tp⟩, List.length_set .., fun j h1 h2 => getset h1.symm⟩
end
theorem notinL_ints (S : Stt) (y : Int) (xs : List Int) : pNotInA S (.int y) (.lst (iL xs)) = some (.bl (!decide (y ∈ xs))) := by
  have h : (okd 60 (.int y) && okd 60 (.lst (iL xs))) = true := by
    rw [show okd 60 (.lst (iL xs)) = true from okd_ints xs]
    rfl
  have h2 : (PV.lst (iL xs)) = .lst (iL xs) := rfl
  unfold pNotInA pNotIn
  simp only [h, if_true, any_ints, Option.some_or]
theorem lenR {S : Stt} {r : Nat} {xs : List PV} (h : S[r]? = some (.lst xs)) : fLen S [.ref r] = some (.int xs.length) := by
  unfold fLen res
  simp only [h]
theorem tupR {S : Stt} {r : Nat} {xs : List PV} (h : S[r]? = some (.lst xs)) : fTuple S [.ref r] = some (.tup xs) := by
  unfold fTuple res
  simp only [h]
section
variable {p k : Int} {xs : List Int} {bk : List (List Ft)} (hg : Gnd p k xs) (hb : okB xs.length bk)
include hg hb
omit hg hb in
theorem pl1 {f : Str} {x : PV} {fs : List (Str × PV)} {n : Nat} (h : fs.length ≤ n) : (putP' f x fs).length ≤ n + 1 := Nat.le_trans (putP'_len f x fs) (Nat.succ_le_succ h)
omit hg hb in
theorem app_set {S : Stt} {x y : SO} : (S ++ [x]).set S.length y = S ++ [y] := by
  rw [List.set_append_right _ _ (Nat.le_refl _), Nat.sub_self]
  rfl
omit hg hb in
theorem app_set2 {S : Stt} {x y z : SO} : (S ++ [x, z]).set S.length y = S ++ [y, z] := by
  rw [List.set_append_right _ _ (Nat.le_refl _), Nat.sub_self]
  rfl
omit hg hb in
theorem app_at {S r : Stt} {x : SO} : (S ++ x :: r)[S.length]? = some x := by
  rw [List.getElem?_append_right (Nat.le_refl _), Nat.sub_self]
  rfl
theorem fn_clerk (S : Stt) : Fn (den_Clerk____init__ [.ref S.length, gv p k xs, bkP bk] (S ++ [.ins "Clerk" []])) (fun q s => q = .non ∧ ∃ a b, s = S ++ [a, b] ∧ Clk s S.length (S.length + 1) (gv p k xs) (bkP bk) (List.replicate xs.length []) [] []) noR := by
  have hn2 := hg.n2
  generalize hS0 : S ++ [SO.ins "Clerk" []] = S0
  unfold den_Clerk____init__
  with_reducible refine fn_run ?_ ?_
  exact rfl
  unfold body_Clerk____init__
  walk_at "fss"
  refine no_implicit_lambda% (Fn.mono (fn_made_ground S0 p k xs hg) (fun q s ⟨e1, e2⟩ => ?_) fun _ _ _ h => h.elim)
  subst e1 e2
  walk_at "fss"
  refine no_implicit_lambda% (Fn.mono (fn_shelves s p k xs hg) (fun q s' ⟨e1, e2⟩ => ?_) fun _ _ _ h => h.elim)
  subst e1 e2
  walk_at "fss"
  refine no_implicit_lambda% (Fn.mono (fn_made_book s' xs.length (bk.map rwP) hg.n1 hg.n2 (rws_thb bk) (rws_okd 56 bk) (fun h => hb.1 (List.map_eq_nil_iff.mp h)) (by rw [List.length_map]; exact hb.2.1)) (fun q s ⟨e1, e2, _⟩ => ?_) fun c v s ⟨_, _, i, a, _, h1, h2, _⟩ => ?_)
  · subst e1 e2 hS0
    walk_at "fss"
    refine x_setF app_at (by decide) fun s1 e1 => ?_
    rw [app_set] at e1
    subst e1
    walk_at "fss"
    refine x_setF app_at (Nat.lt_of_le_of_lt (pl1 (Nat.le_refl _)) (by decide)) fun s1 e1 => ?_
    rw [app_set] at e1
    subst e1
    walk_at "fss"
    refine no_implicit_lambda% (Fn.mono (fn_shelves _ p k xs hg) (fun q s' ⟨e1, e2⟩ => ?_) fun _ _ _ h => h.elim)
    subst e1 e2
    walk_at "fss"
    refine ⟨_, _, rfl, rfl, ⟨by omega, by omega, by rw [Int.toNat_natCast]; show 1 * xs.length ≤ _; exact Nat.le_of_lt (small_line (by omega))⟩, ?_⟩
    walk_at "fss"
    rw [List.append_assoc]
    refine x_setF app_at (Nat.lt_of_le_of_lt (pl1 (pl1 (Nat.le_refl _))) (by decide)) fun s1 e1 => ?_
    rw [List.cons_append, List.nil_append, app_set2] at e1
    subst e1
    walk_at "fss"
    refine x_setF app_at (Nat.lt_of_le_of_lt (pl1 (pl1 (pl1 (Nat.le_refl _)))) (by decide)) fun s1 e1 => ?_
    rw [app_set2] at e1
    subst e1
    walk_at "fss"
    refine x_setF app_at (Nat.lt_of_le_of_lt (pl1 (pl1 (pl1 (pl1 (Nat.le_refl _))))) (by decide)) fun s1 e1 => ?_
    rw [app_set2] at e1
    subst e1
    refine ⟨rfl, _, _, rfl, ?_, ?_⟩
    · rw [app_at]
      rw [List.length_append]
      rfl
    · rw [List.getElem?_append_right (by omega), Nat.add_sub_cancel_left]
      show some (SO.lst _) = _
      rw [Int.toNat_natCast, List.map_replicate]
      congr 2
      induction xs.length with
      | zero => rfl
      | succ n ih => rw [List.replicate_succ, List.replicate_succ, List.flatten_cons, ih]; rfl
  · have := List.all_eq_true.mp (rws_is hb) a (List.mem_of_getElem? h1)
    rw [h2] at this
    cases this
section
variable {S : Stt} {o r : Nat} {w : Wv} {sn un : List Int}
theorem fn_clerk_shelf (hC : Clk S o r (gv p k xs) (bkP bk) w sn un) (hw : w.length = xs.length) (sh : Nat) (hs : sh < xs.length) : Fn (den_Clerk__check_shelf [.ref o, .int sh] S) (fun q s => s = S) noR := by
  have hn2 := hg.n2
  unfold den_Clerk__check_shelf
  with_reducible refine fn_run ?_ ?_
  exact rfl
  unfold body_Clerk__check_shelf
  walk_at "fss"
  refine x_fld hC.ob (w := .ref r) rfl ?_
  walk_at "fss"
  refine x_len (lenR hC.tp) ?_
  walk_at "fss"
  rw [List.length_map, hw]
  refine no_implicit_lambda% (Fn.mono (fn_is_number S (.int sh) 0 ((xs.length : Int) - 1) (.inl ⟨_, rfl⟩)) (fun q s' ⟨e1, e2⟩ => ?_) fun _ _ _ h => h.elim)
  subst e1 e2
  rw [show isW 0 ((xs.length : Int) - 1) (.int sh) = true by simp [isW]; omega]
  walk_at "fss"
  exact rfl
theorem fn_clerk_safe (hC : Clk S o r (gv p k xs) (bkP bk) w sn un) (hw : okW xs.length w) (B : List Int) (hB : B.length ≤ 64) : Fn (den_Clerk__safe_of [.ref o, .lst (iL B)] S) (fun q s => s = S ∧ q = .lst (iL (B.filter fun b => enB w bk false b k))) noR := by
  unfold den_Clerk__safe_of
  with_reducible refine fn_run ?_ ?_
  exact rfl
  unfold body_Clerk__safe_of
  walk_at "fss"
  refine x_fld hC.ob (w := gv p k xs) rfl ?_
  walk_at "fss"
  refine x_fld hC.ob (w := bkP bk) rfl ?_
  walk_at "fss"
  refine x_fld hC.ob (w := .ref r) rfl ?_
  walk_at "fss"
  refine no_implicit_lambda% (Fn.mono (fn_safe_among S xs.length bk w false k B hg.n2 hw hb hB (.ref r) (.inr ⟨r, rfl, hC.tp⟩)) (fun q s ⟨e1, e2⟩ => ?_) fun _ _ _ h => h.elim)
  subst e1 e2
  exact ⟨rfl, rfl⟩
omit hg hb in
theorem ixR {S : Stt} {r : Nat} {xs : List PV} {i : Int} {x : PV} (h : S[r]? = some (.lst xs)) (hi : atI xs i = some x) : pIx S (.ref r) (.int i) = some x := by
  unfold pIx res
  simp only [h]
  exact hi
omit hg hb in
theorem okW.put {n : Nat} {w : Wv} (h : okW n w) {sh : Nat} {b : Int} (hl : (w.getD sh []).length < 1024) (b0 : 0 ≤ b) (b1 : b < 64) : okW n (w.set sh (w.getD sh [] ++ [b])) := by
  refine ⟨by rw [List.length_set]; exact h.1, fun t ht => ?_⟩
  rcases List.mem_or_eq_of_mem_set ht with q | q
  · exact h.2 t q
  · subst q
    refine ⟨by rw [List.length_append]; show _ + 1 ≤ _; omega, fun x hx => ?_⟩
    rcases List.mem_append.mp hx with q | q
    · by_cases hs : sh < w.length
      · exact (h.2 _ (getD_mem (d := []) hs)).2 x q
      · rw [List.getD_eq_getElem?_getD, List.getElem?_eq_none (by omega)] at q
        cases q
    · rw [List.mem_singleton.mp q]
      exact ⟨b0, b1⟩
/-- what a cell more makes of the unsafe ones -/
def un1 (sn un : List Int) (b : Int) : List Int := if b ∉ sn ∧ b ∉ un then (un ++ [b]).mergeSort leI else un
def nws (w' : Wv) (bk : List (List Ft)) (k : Int) (sn un : List Int) (b : Int) : List Int := (un1 sn un b).filter fun x => enB w' bk false x k
omit hg hb in
theorem un1_len {sn un : List Int} {b : Int} : (un1 sn un b).length ≤ un.length + 1 := by
  unfold un1
  by_cases h : b ∉ sn ∧ b ∉ un
  · rw [if_pos h, List.length_mergeSort, List.length_append]
    exact Nat.le_refl _
  · rw [if_neg h]
    omega
local macro_rules | `(tactic| walk_at "fsi") => `(tactic| repeat' ((fail_if_success (with_reducible show Wp (dSeq (dIf _ _ _) _ _ _) _ _)); first | (walk_at "fs0") | (walk_at "fsp")))
theorem fn_clerk_write (hC : Clk S o r (gv p k xs) (bkP bk) w sn un) (hw : okW xs.length w) (hl : sn.length + un.length < 64) (sh : Nat) (b : Int) (hs : sh < xs.length) (b0 : 0 ≤ b) (b1 : b < 64) (htl : (w.getD sh []).length < 1024) :
    Fn (den_Clerk__write [.ref o, .int sh, .int b] S) (fun q s => q = tupI (nws (w.set sh (w.getD sh [] ++ [b])) bk k sn un b) ∧ Off S s o r ∧
      Clk s o r (gv p k xs) (bkP bk) (w.set sh (w.getD sh [] ++ [b])) ((sn ++ nws (w.set sh (w.getD sh [] ++ [b])) bk k sn un b).mergeSort leI) ((un1 sn un b).filter fun x => !decide (x ∈ nws (w.set sh (w.getD sh [] ++ [b])) bk k sn un b))) noR := by
  have hn2 := hg.n2
  have hwl := hw.1
  have hw' := hw.put (sh := sh) (b := b) htl b0 b1
  have hat : atI (w.map tupI) (sh : Int) = some (tupI (w.getD sh [])) := atI_nat (by rw [List.getElem?_map, List.getElem?_eq_getElem (by omega), List.getD_eq_getElem?_getD, List.getElem?_eq_getElem (by omega)]; rfl)
  have htL := ints_len (w.getD sh [])
  unfold den_Clerk__write
  with_reducible refine fn_run ?_ ?_
  exact rfl
  unfold body_Clerk__write
  walk_at "fsi"
  refine x_meth hC.ob rfl ?_
  walk_at "fsi"
  refine ⟨rfl, ?_⟩
  refine no_implicit_lambda% (Fn.mono (fn_clerk_shelf hg hb hC hwl sh hs) (fun q s e1 => ?_) fun _ _ _ h => h.elim)
  subst e1
  walk_at "fsi"
  with_reducible refine wp_seq ?_
  walk_at "fsi"
  refine no_implicit_lambda% (Fn.mono (show Fn (den_is_number [.int b, .int 0, .int (64 - 1)] s) _ _ from fn_is_number s (.int b) 0 63 (.inl ⟨_, rfl⟩)) (fun q s' ⟨e1, e2⟩ => ?_) fun _ _ _ h => h.elim)
  subst e1 e2
  rw [show isW 0 63 (.int b) = true by simp [isW]; omega]
  walk_at "fsi"
  with_reducible refine wp_seq ?_
  walk_at "fsi"
  refine x_fld hC.ob (w := .ref r) rfl ?_
  walk_at "fsi"
  refine x_ix (ixR hC.tp hat) ?_
  walk_at "fsi"
  · rename_i h
    rw [htL] at h
    omega
  refine x_fld hC.ob (w := .ref r) rfl ?_
  walk_at "fsi"
  refine x_ix (ixR hC.tp hat) ?_
  walk_at "fsi"
  refine x_addT (xs := iL (w.getD sh [])) (ys := [.int b]) (small2 (by rw [htL]; show _ + 1 < _; omega)) ?_
  walk_at "fsi"
  refine x_fld hC.ob (w := .ref r) rfl ?_
  walk_at "fsi"
  refine x_setR rfl rfl hC.tp (ixN_nat (by rw [List.length_map, hwl]; exact hs)) ?_
  rw [show (w.map tupI).set sh (.tup (iL (w.getD sh []) ++ [.int b])) = (w.set sh (w.getD sh [] ++ [b])).map tupI by
    rw [List.map_set]
    congr 1
    show PV.tup _ = PV.tup (iL _)
    rw [← iL_app]
    rfl]
  generalize hW' : w.set sh (w.getD sh [] ++ [b]) = w' at *
  obtain ⟨C1, O1⟩ := hC.tape w'
  generalize s'.set r (.lst (w'.map tupI)) = s1 at C1 O1
  change Wp _ _ _
  with_reducible refine wp_seq ?_
  refine no_implicit_lambda% (Wp.mono' (fun f e s => f = .next ∧ e = [.val (.ref o), .val (.int sh), .val (.int b), .none, .none] ∧ Off s1 s o r ∧ Clk s o r (gv p k xs) (bkP bk) w' sn (un1 sn un b)) (fun _ _ _ _ => False) ?_ (fun f e s2 ⟨e1, e2, O2, C2⟩ => ?_) (fun _ _ _ _ h => False.elim h))
  · walk_at "fss"
    refine x_fld C1.ob (w := .lst (iL sn)) rfl ?_
    refine ⟨_, notinL_ints s1 b sn, ?_⟩
    walk_at "fss"
    · rename_i hn
      refine x_fld C1.ob (w := .lst (iL un)) rfl ?_
      refine ⟨_, notinL_ints s1 b un, ?_⟩
      walk_at "fss"
      · rename_i hu
        refine x_fld C1.ob (w := .lst (iL un)) rfl ?_
        walk_at "fss"
        refine x_addL (by rw [ints_len]; show _ + 1 ≤ _; exact Nat.le_of_lt (small_line (by omega))) ?_
        rw [show iL un ++ [PV.int b] = iL (un ++ [b]) by rw [← iL_app]; rfl]
        refine ⟨_, _, rfl, intsOf_map _, ?_⟩
        walk_at "fss"
        obtain ⟨C2, O2⟩ := C1.unsf ((un ++ [b]).mergeSort leI)
        refine ⟨_, _, rfl, C1.ob, by show 5 < 1000; decide, ?_⟩
        refine ⟨rfl, rfl, O2, ?_⟩
        unfold un1
        rw [if_pos ⟨by simpa using hn, by simpa using hu⟩]
        exact C2
      · rename_i hu
        refine ⟨rfl, rfl, Off.refl .., ?_⟩
        unfold un1
        rw [if_neg fun h => by first | exact absurd hu h.2 | simp [h.2] at hu]
        exact C1
    · rename_i hn _
      refine ⟨rfl, rfl, Off.refl .., ?_⟩
      unfold un1
      rw [if_neg fun h => by first | exact absurd hn h.1 | simp [h.1] at hn]
      exact C1
  subst e1 e2
  have hul := un1_len (sn := sn) (un := un) (b := b)
  unfold nws
  generalize hU : un1 sn un b = U at *
  walk_at "fss"
  refine x_meth C2.ob rfl ?_
  walk_at "fss"
  refine x_fld C2.ob (w := .lst (iL U)) rfl ?_
  walk_at "fss"
  refine ⟨rfl, ?_⟩
  refine no_implicit_lambda% (Fn.mono (fn_clerk_safe hg hb C2 hw' U (by omega)) (fun q s ⟨e1, e2⟩ => ?_) fun _ _ _ h => h.elim)
  subst e1 e2
  generalize hN : U.filter (fun b => enB w' bk false b k) = N at *
  have hNl : N.length ≤ U.length := by rw [← hN]; exact List.length_filter_le _ _
  walk_at "fss"
  with_reducible refine wp_comp ?_
  walk_at "fss"
  refine x_fld C2.ob (w := .lst (iL U)) rfl ?_
  walk_at "fss"
  refine ⟨fun m acc e s' => s' = s ∧ acc = iL ((U.take m).filter fun x => !decide (x ∈ N)) ∧ e = [.val (.ref o), .val (.int sh), .val (.int b), .val (.lst (iL N)), .none], ⟨rfl, rfl, rfl⟩, fun m q acc e s' hi ⟨e1, h1, e2⟩ => ?_, fun acc e s' ⟨e1, h1, e2⟩ => ?_⟩
  · obtain ⟨x, hx, rfl⟩ := iL_get hi
    have hm : m < U.length := (List.getElem?_eq_some_iff.mp hx).1
    subst e1 e2 h1
    walk_at "fss"
    refine ⟨_, notinL_ints s' x N, ?_⟩
    walk_at "fss"
    · rename_i hk
      refine ⟨by rw [ints_len]; refine small_line ?_; have := List.length_filter_le (fun x => !decide (x ∈ N)) (U.take m); rw [List.length_take] at this; omega, rfl, ?_, rfl⟩
      rw [take_next hx, List.filter_append, show [x].filter (fun x => !decide (x ∈ N)) = [x] by simp [hk], ← iL_app]
      rfl
    · rename_i hk
      refine ⟨rfl, ?_, rfl⟩
      rw [take_next hx, List.filter_append, show [x].filter (fun x => !decide (x ∈ N)) = [] by simp [hk], List.append_nil]
  subst e1 e2 h1
  rw [ints_len, List.take_of_length_le (Nat.le_refl _)]
  walk_at "fss"
  refine x_setF C2.ob (by show 5 < 1000; decide) fun s3 e1 => ?_
  obtain ⟨C3, O3⟩ := C2.unsf (U.filter fun x => !decide (x ∈ N))
  rw [← e1] at C3 O3
  clear e1
  walk_at "fss"
  refine x_fld C3.ob (w := .lst (iL sn)) rfl ?_
  walk_at "fss"
  refine x_addL (by rw [ints_len, ints_len]; exact Nat.le_of_lt (small_line (by omega))) ?_
  rw [iL_app]
  refine ⟨_, _, rfl, intsOf_map _, ?_⟩
  walk_at "fss"
  refine x_setF C3.ob (by show 5 < 1000; decide) fun s4 e1 => ?_
  obtain ⟨C4, O4⟩ := C3.safe ((sn ++ N).mergeSort leI)
  subst e1
  walk_at "fss"
  exact ⟨rfl, ((O1.trans O2).trans O3).trans O4, C4⟩
end
end
theorem fn_clerk_weaving {S : Stt} {o r : Nat} {gP bP : PV} {w : Wv} {sn un : List Int} (hC : Clk S o r gP bP w sn un) : Fn (den_Clerk__weaving [.ref o] S) (fun q s => s = S ∧ q = wvP w) noR := by
  unfold den_Clerk__weaving
  with_reducible refine fn_run ?_ ?_
  exact rfl
  unfold body_Clerk__weaving
  walk_at "fss"
  refine x_fld hC.ob (w := .ref r) rfl ?_
  walk_at "fss"
  refine x_tupf (tupR hC.tp) ?_
  exact ⟨rfl, rfl⟩
theorem fn_clerk_done {S : Stt} {o r : Nat} {gP bP : PV} {w : Wv} {sn un : List Int} (hC : Clk S o r gP bP w sn un) : Fn (den_Clerk__done [.ref o] S) (fun q s => s = S ∧ q = tupI sn) noR := by
  unfold den_Clerk__done
  with_reducible refine fn_run ?_ ?_
  exact rfl
  unfold body_Clerk__done
  walk_at "fss"
  refine x_fld hC.ob (w := .lst (iL sn)) rfl ?_
  walk_at "fss"
  exact ⟨rfl, rfl⟩
end
end I
end FS
set_option Elab.async false
set_option linter.all false
set_option pp.maxSteps 700
set_option maxRecDepth 100000
set_option maxHeartbeats 8000000
namespace FS
open PySem L2
namespace I
section
local macro_rules | `(tactic| walk_at "okm") => `(tactic| first | (exact okMul_l (by omega)) | (exact okMul_r (by omega)) | decide)
local macro_rules | `(tactic| walk_at "fsW") => `(tactic| first
  | (with_reducible refine wp_useL ?_)
  | (with_reducible refine wp_lenL ?_)
  | (with_reducible refine wp_ixL ?_)
  | (with_reducible refine wp_mthL ?_)
  | ((with_reducible refine wp_gtupC ?_ ?_); exact rfl)
  | ((with_reducible refine wp_gtupZ ?_ ?_); exact rfl))
local macro_rules | `(tactic| walk_at "fsE") => `(tactic| first
  | ((with_reducible show ∃ ys, _ = some (Slot.own ys) ∧ _); refine x_own1 rfl ?_)
  | ((with_reducible refine x_mul ?_ ?_); (walk_at "okm"))
  | ((with_reducible refine x_div ?_ ?_ ?_); omega; omega)
  | ((with_reducible refine x_mod ?_ ?_); omega)
  | ((with_reducible refine x_pow ?_ ?_); decide)
  | ((with_reducible show ∃ k, _ = some (PV.bl k) ∧ _); refine x_chain rfl ?_)
  | ((with_reducible show ∃ n ys, _ = PV.ref n ∧ _ = some (SO.lst ys) ∧ _); refine x_mR rfl rfl ?_)
  | ((with_reducible show ∃ w, pIx _ _ _ = some w ∧ _); refine x_ix rfl ?_)
  | ((with_reducible show ∃ w, fLen _ _ = some w ∧ _); refine x_len rfl ?_)
  | ((with_reducible show ∃ w, fInt _ _ = some w ∧ _); refine x_int rfl ?_)
  | ((with_reducible refine x_isi (w := .bl true) ?_ ?_); exact rfl)
  | ((with_reducible refine x_isi (w := .bl false) ?_ ?_); exact rfl)
  | ((with_reducible show ∃ w, fTuple _ _ = some w ∧ _); refine x_tupf rfl ?_)
  | ((with_reducible show ∃ w, fMin _ _ = some w ∧ _); refine x_minf rfl ?_)
  | ((with_reducible show ∃ w, fMax _ _ = some w ∧ _); refine x_maxf rfl ?_)
  | ((with_reducible show ∃ w, pCut _ _ _ _ = some w ∧ _); refine x_pcut rfl ?_)
  | ((with_reducible show ∃ w, itemsOf _ _ = some w ∧ _); refine x_itm rfl ?_)
  | ((with_reducible show ∃ w, itemsF _ = some w ∧ _); refine x_itF rfl ?_)
  | ((with_reducible show ∃ i, _ = PV.int i ∧ _); refine x_part rfl ?_)
  | ((with_reducible show ∃ p q, _ = [p, q] ∧ _); refine x_par rfl ?_)
  | ((with_reducible show ∃ n xs j m, _ = PV.ref n ∧ _ = PV.int j ∧ _ ∧ _ ∧ _); refine x_setR rfl rfl rfl rfl ?_))
local macro_rules | `(tactic| walk_at "fsR") => `(tactic| first
  | ((with_reducible show Wp _ _ _); (walk_at "fsW"))
  | ((with_reducible show Exists _); (walk_at "fsE"))
  | ((with_reducible show LkS _ _ _); first | refine lks_v rfl ?_ | refine lks_o rfl ?_)
  | ((with_reducible show _ ≤ sizeLine ∧ _); refine x_low rfl ?_)
  | ((with_reducible show List.length _ = _ ∧ _); refine x_num rfl ?_))
local macro_rules | `(tactic| walk_at "fs1") => `(tactic| first | (with_reducible refine run1 ?_) | (walk_at "fsR"))
local macro_rules | `(tactic| walk_at "fs0") => `(tactic| first | (with_reducible refine stp1 ?_) | (walk_at "fsR"))
local macro_rules | `(tactic| walk_at "fs") => `(tactic| repeat (walk_at "fs1"))
local macro_rules | `(tactic| walk_at "fsp") => `(tactic| (with_reducible refine x_spl ?_ ?_) <;> (intro h; first | (simp only [Bool.not_true, Bool.not_false, reduceCtorEq, decide_eq_true_eq, decide_eq_false_iff_not, Bool.not_eq_true', Bool.not_eq_false', Bool.and_eq_true, Int.not_lt, Int.not_le, Bool.or_eq_true, Bool.and_eq_false_iff, Bool.or_eq_false_iff, Bool.false_and, Bool.true_and, Bool.or_false, Bool.false_or, beq_self_eq_true, Bool.true_or, List.isEmpty_nil, List.isEmpty_cons] at h) | skip))
local macro_rules | `(tactic| walk_at "fss") => `(tactic| repeat' (first | (walk_at "fs1") | (walk_at "fsp")))
/-! ### what a clerk keeps -/
theorem srt_ris {l : List Int} (h : l.Nodup) : (l.mergeSort leI).Pairwise (· < ·) := by
  have h1 : (l.mergeSort leI).Pairwise (fun a b => leI a b = true) := List.pairwise_mergeSort (fun a b c h1 h2 => by
    have h1 := of_decide_eq_true h1
    have h2 := of_decide_eq_true h2
    exact decide_eq_true (by omega)) (fun a b => by
    by_cases h : a ≤ b
    · simp [leI, h]
    · have : b ≤ a := by omega
      simp [leI, this]) l
  have h2 : (l.mergeSort leI).Nodup := (List.mergeSort_perm l leI).nodup_iff.mpr h
  exact (h1.and h2).imp fun ⟨h1, h2⟩ => by
    have h1 := of_decide_eq_true h1
    omega
theorem mem_srt {l : List Int} {x : Int} : x ∈ l.mergeSort leI ↔ x ∈ l := (List.mergeSort_perm l leI).mem_iff
theorem ris_nodup {l : List Int} (h : l.Pairwise (· < ·)) : l.Nodup := h.imp fun h => by omega
theorem smV_no {w : Wv} {r o : List Ft} {t : Bool} {b : Int} (h : b ∉ w.flatten) : smV w r o t b = 0 := by
  have hz : ∀ i ∈ List.range w.length, (((w.getD i []).take (hdAt w r o t i)).count b : Int) = 0 := fun i hi => by
    rw [List.count_eq_zero.mpr fun hm => h (List.mem_flatten.mpr ⟨_, getD_mem (d := []) (List.mem_range.mp hi), List.mem_of_mem_take hm⟩)]
    rfl
  unfold smV csL
  generalize List.range w.length = l at hz
  induction l with
  | nil => rfl
  | cons i l ih =>
    rw [List.map_cons, List.sum_cons, hz i (List.mem_cons_self ..), ih fun j hj => hz j (List.mem_cons_of_mem _ hj)]
    rfl
theorem enB_no {w : Wv} {bk : List (List Ft)} {t : Bool} {b k : Int} (hb : bk ≠ []) (hk : 1 ≤ k) (h : b ∉ w.flatten) : enB w bk t b k = false := by
  cases e : enB w bk t b k with
  | false => rfl
  | true =>
    obtain ⟨r, hr⟩ := List.exists_mem_of_ne_nil _ hb
    have := enB_iff.mp e r hr r hr
    rw [smV_no h] at this
    omega
theorem mem_put {w : Wv} {sh : Nat} {b x : Int} (hs : sh < w.length) : x ∈ (w.set sh (w.getD sh [] ++ [b])).flatten ↔ x ∈ w.flatten ∨ x = b := by
  rw [List.mem_flatten, List.mem_flatten]
  constructor
  · rintro ⟨t, ht, hx⟩
    rcases List.mem_or_eq_of_mem_set ht with q | q
    · exact .inl ⟨t, q, hx⟩
    · subst q
      rcases List.mem_append.mp hx with q | q
      · exact .inl ⟨_, getD_mem (d := []) hs, q⟩
      · exact .inr (List.mem_singleton.mp q)
  · rintro (⟨t, ht, hx⟩ | rfl)
    · obtain ⟨i, hi, rfl⟩ := List.getElem_of_mem ht
      by_cases e : sh = i
      · subst e
        refine ⟨_, List.mem_iff_getElem?.mpr ⟨sh, by rw [List.getElem?_set, if_pos rfl, if_pos hs]⟩, List.mem_append_left _ ?_⟩
        rw [List.getD_eq_getElem?_getD, List.getElem?_eq_getElem hs]
        exact hx
      · exact ⟨_, List.mem_iff_getElem?.mpr ⟨i, by rw [List.getElem?_set, if_neg e, List.getElem?_eq_getElem hi]⟩, hx⟩
    · exact ⟨_, List.mem_iff_getElem?.mpr ⟨sh, by rw [List.getElem?_set, if_pos rfl, if_pos hs]⟩, List.mem_append_right _ (List.mem_singleton.mpr rfl)⟩
/-- the safe ones, the unsafe ones, the news -/
def snL (w : Wv) (bk : List (List Ft)) (k : Int) : List Int := (srtI w.flatten).filter fun x => enB w bk false x k
def unL (w : Wv) (bk : List (List Ft)) (k : Int) : List Int := (srtI w.flatten).filter fun x => !enB w bk false x k
def nwL (w w' : Wv) (bk : List (List Ft)) (k : Int) : List Int := (srtI w'.flatten).filter fun x => enB w' bk false x k && !enB w bk false x k
theorem ris_filter {l : List Int} {f : Int → Bool} (h : l.Pairwise (· < ·)) : (l.filter f).Pairwise (· < ·) := h.sublist List.filter_sublist
theorem fl_len {l : List Int} {f : Int → Bool} : (l.filter f).length + (l.filter fun x => !f x).length = l.length := by
  induction l with
  | nil => rfl
  | cons a l ih =>
    rw [List.filter_cons, List.filter_cons, List.length_cons]
    cases f a
    · simp only [Bool.false_eq_true, if_false, Bool.not_false, if_true, List.length_cons]
      omega
    · simp only [if_true, Bool.not_true, Bool.false_eq_true, if_false, List.length_cons]
      omega
theorem keep_len {w : Wv} {bk : List (List Ft)} {k : Int} : (snL w bk k).length + (unL w bk k).length = (srtI w.flatten).length := fl_len
section
variable {w : Wv} {bk : List (List Ft)} {k b : Int} {sh : Nat} (hbk : bk ≠ []) (hk : 1 ≤ k) (hs : sh < w.length) (hm : ∀ x, enB w bk false x k = true → enB (w.set sh (w.getD sh [] ++ [b])) bk false x k = true)
include hbk hk hs hm
theorem un1_eq : un1 (snL w bk k) (unL w bk k) b = (srtI (w.set sh (w.getD sh [] ++ [b])).flatten).filter fun x => !enB w bk false x k := by
  have hun : (unL w bk k).Pairwise (· < ·) := ris_filter (srtI_all _).1
  have hin : ∀ x, x ∈ unL w bk k ↔ x ∈ w.flatten ∧ enB w bk false x k = false := fun x => by
    unfold unL
    rw [List.mem_filter, (srtI_all _).2 x]
    simp
  have hsn : ∀ x, x ∈ snL w bk k ↔ x ∈ w.flatten ∧ enB w bk false x k = true := fun x => by
    unfold snL
    rw [List.mem_filter, (srtI_all _).2 x]
  refine ris_uniq ?_ (ris_filter (srtI_all _).1) fun x => ?_
  · unfold un1
    split
    · rename_i h
      refine srt_ris ?_
      rw [List.nodup_append]
      refine ⟨ris_nodup hun, by simp, fun a ha c hc => ?_⟩
      rw [List.mem_singleton.mp hc]
      exact fun e => h.2 (e ▸ ha)
    · exact hun
  · rw [List.mem_filter, (srtI_all _).2 x, mem_put hs]
    have hbn : b ∉ w.flatten → enB w bk false b k = false := enB_no hbk hk
    unfold un1
    split
    · rename_i h
      rw [mem_srt, List.mem_append, List.mem_singleton, hin]
      constructor
      · rintro (⟨h1, h2⟩ | rfl)
        · exact ⟨.inl h1, by simp [h2]⟩
        · refine ⟨.inr rfl, ?_⟩
          by_cases hx : x ∈ w.flatten
          · have h3 : enB w bk false x k = false := by
              cases e : enB w bk false x k with
              | false => rfl
              | true => exact absurd ((hsn x).mpr ⟨hx, e⟩) h.1
            simp [h3]
          · simp [hbn hx]
      · rintro ⟨h1 | rfl, h2⟩
        · exact .inl ⟨h1, by simpa using h2⟩
        · exact .inr rfl
    · rename_i h
      rw [hin]
      constructor
      · exact fun ⟨h1, h2⟩ => ⟨.inl h1, by simp [h2]⟩
      · rintro ⟨h1 | rfl, h2⟩
        · exact ⟨h1, by simpa using h2⟩
        · by_cases hx : x ∈ w.flatten
          · exact ⟨hx, by simpa using h2⟩
          · exact absurd ⟨fun q => hx ((hsn x).mp q).1, fun q => hx ((hin x).mp q).1⟩ h
theorem nws_eq : nws (w.set sh (w.getD sh [] ++ [b])) bk k (snL w bk k) (unL w bk k) b = nwL w (w.set sh (w.getD sh [] ++ [b])) bk k := by
  unfold nws nwL
  rw [un1_eq hbk hk hs hm, List.filter_filter]
theorem un2_eq : ((un1 (snL w bk k) (unL w bk k) b).filter fun x => !decide (x ∈ nws (w.set sh (w.getD sh [] ++ [b])) bk k (snL w bk k) (unL w bk k) b)) = unL (w.set sh (w.getD sh [] ++ [b])) bk k := by
  refine ris_uniq ?_ (ris_filter (srtI_all _).1) fun x => ?_
  · rw [un1_eq hbk hk hs hm]
    exact ris_filter (ris_filter (srtI_all _).1)
  · rw [nws_eq hbk hk hs hm, un1_eq hbk hk hs hm]
    have := hm x
    unfold unL nwL
    generalize w.set sh (w.getD sh [] ++ [b]) = w' at *
    simp only [List.mem_filter, Bool.not_eq_true', decide_eq_false_iff_not, Bool.and_eq_true]
    cases e1 : enB w bk false x k
    · cases e2 : enB w' bk false x k <;> simp
    · simp [this e1]
theorem sn2_eq : (snL w bk k ++ nws (w.set sh (w.getD sh [] ++ [b])) bk k (snL w bk k) (unL w bk k) b).mergeSort leI = snL (w.set sh (w.getD sh [] ++ [b])) bk k := by
  rw [nws_eq hbk hk hs hm]
  refine ris_uniq (srt_ris ?_) (ris_filter (srtI_all _).1) fun x => ?_
  · rw [List.nodup_append]
    refine ⟨ris_nodup (ris_filter (srtI_all _).1), ris_nodup (ris_filter (srtI_all _).1), fun a ha c hc e => ?_⟩
    subst e
    have h1 := (List.mem_filter.mp ha).2
    have h2 := (List.mem_filter.mp hc).2
    rw [h1] at h2
    simp at h2
  · rw [mem_srt, List.mem_append]
    have h1 := hm x
    have h2 := (mem_put (b := b) (x := x) hs)
    have h3 : x ∉ w.flatten → enB w bk false x k = false := enB_no hbk hk
    unfold snL nwL
    generalize w.set sh (w.getD sh [] ++ [b]) = w' at *
    simp only [List.mem_filter, (srtI_all _).2 x, h2, Bool.and_eq_true, Bool.not_eq_true']
    cases e1 : enB w bk false x k
    · simp
    · have h4 : x ∈ w.flatten := Classical.byContradiction fun q => by rw [h3 q] at e1; cases e1
      simp [h4, h1 e1]
end
end
end I
end FS
set_option Elab.async false
set_option linter.all false
set_option pp.maxSteps 700
set_option maxRecDepth 100000
set_option maxHeartbeats 8000000
namespace FS
open PySem L2
namespace I
section
local macro_rules | `(tactic| walk_at "okm") => `(tactic| first | (exact okMul_l (by omega)) | (exact okMul_r (by omega)) | decide)
local macro_rules | `(tactic| walk_at "fsW") => `(tactic| first
  | (with_reducible refine wp_useL ?_)
  | (with_reducible refine wp_lenL ?_)
  | (with_reducible refine wp_ixL ?_)
  | (with_reducible refine wp_mthL ?_)
  | ((with_reducible refine wp_gtupC ?_ ?_); exact rfl)
  | ((with_reducible refine wp_gtupZ ?_ ?_); exact rfl))
local macro_rules | `(tactic| walk_at "fsE") => `(tactic| first
  | ((with_reducible show ∃ ys, _ = some (Slot.own ys) ∧ _); refine x_own1 rfl ?_)
  | ((with_reducible refine x_mul ?_ ?_); (walk_at "okm"))
  | ((with_reducible refine x_div ?_ ?_ ?_); omega; omega)
  | ((with_reducible refine x_mod ?_ ?_); omega)
  | ((with_reducible refine x_pow ?_ ?_); decide)
  | ((with_reducible show ∃ k, _ = some (PV.bl k) ∧ _); refine x_chain rfl ?_)
  | ((with_reducible show ∃ n ys, _ = PV.ref n ∧ _ = some (SO.lst ys) ∧ _); refine x_mR rfl rfl ?_)
  | ((with_reducible show ∃ w, pIx _ _ _ = some w ∧ _); refine x_ix rfl ?_)
  | ((with_reducible show ∃ w, fLen _ _ = some w ∧ _); refine x_len rfl ?_)
  | ((with_reducible show ∃ w, fInt _ _ = some w ∧ _); refine x_int rfl ?_)
  | ((with_reducible refine x_isi (w := .bl true) ?_ ?_); exact rfl)
  | ((with_reducible refine x_isi (w := .bl false) ?_ ?_); exact rfl)
  | ((with_reducible show ∃ w, fTuple _ _ = some w ∧ _); refine x_tupf rfl ?_)
  | ((with_reducible show ∃ w, fMin _ _ = some w ∧ _); refine x_minf rfl ?_)
  | ((with_reducible show ∃ w, fMax _ _ = some w ∧ _); refine x_maxf rfl ?_)
  | ((with_reducible show ∃ w, pCut _ _ _ _ = some w ∧ _); refine x_pcut rfl ?_)
  | ((with_reducible show ∃ w, itemsOf _ _ = some w ∧ _); refine x_itm rfl ?_)
  | ((with_reducible show ∃ w, itemsF _ = some w ∧ _); refine x_itF rfl ?_)
  | ((with_reducible show ∃ i, _ = PV.int i ∧ _); refine x_part rfl ?_)
  | ((with_reducible show ∃ p q, _ = [p, q] ∧ _); refine x_par rfl ?_)
  | ((with_reducible show ∃ n xs j m, _ = PV.ref n ∧ _ = PV.int j ∧ _ ∧ _ ∧ _); refine x_setR rfl rfl rfl rfl ?_))
local macro_rules | `(tactic| walk_at "fsR") => `(tactic| first
  | ((with_reducible show Wp _ _ _); (walk_at "fsW"))
  | ((with_reducible show Exists _); (walk_at "fsE"))
  | ((with_reducible show LkS _ _ _); first | refine lks_v rfl ?_ | refine lks_o rfl ?_)
  | ((with_reducible show _ ≤ sizeLine ∧ _); refine x_low rfl ?_)
  | ((with_reducible show List.length _ = _ ∧ _); refine x_num rfl ?_))
local macro_rules | `(tactic| walk_at "fs1") => `(tactic| first | (with_reducible refine run1 ?_) | (walk_at "fsR"))
local macro_rules | `(tactic| walk_at "fs0") => `(tactic| first | (with_reducible refine stp1 ?_) | (walk_at "fsR"))
local macro_rules | `(tactic| walk_at "fs") => `(tactic| repeat (walk_at "fs1"))
local macro_rules | `(tactic| walk_at "fsp") => `(tactic| (with_reducible refine x_spl ?_ ?_) <;> (intro h; first | (simp only [Bool.not_true, Bool.not_false, reduceCtorEq, decide_eq_true_eq, decide_eq_false_iff_not, Bool.not_eq_true', Bool.not_eq_false', Bool.and_eq_true, Int.not_lt, Int.not_le, Bool.or_eq_true, Bool.and_eq_false_iff, Bool.or_eq_false_iff, Bool.false_and, Bool.true_and, Bool.or_false, Bool.false_or, beq_self_eq_true, Bool.true_or, List.isEmpty_nil, List.isEmpty_cons] at h) | skip))
local macro_rules | `(tactic| walk_at "fss") => `(tactic| repeat' (first | (walk_at "fs1") | (walk_at "fsp")))
/-! ### a clerk whose shelves are lost, whose book is another -/
theorem smV_put {w : Wv} {sh : Nat} {b x : Int} {r o : List Ft} {t : Bool} : smV w r o t x ≤ smV (w.set sh (w.getD sh [] ++ [b])) r o t x := by
  unfold smV csL
  rw [List.length_set]
  refine sum_le fun i hi => ?_
  have hi := List.mem_range.mp hi
  by_cases e : sh = i
  · subst e
    have e1 : (w.set sh (w.getD sh [] ++ [b])).getD sh [] = w.getD sh [] ++ [b] := by
      rw [List.getD_eq_getElem?_getD, List.getElem?_set, if_pos rfl, if_pos hi]
      rfl
    unfold hdAt
    rw [e1]
    generalize w.getD sh [] = tp
    have h1 := hdB_le tp.length (r.getD sh (none, none)) (o.getD sh (none, none)) t
    have h2 : hdB tp.length (r.getD sh (none, none)) (o.getD sh (none, none)) t ≤ hdB (tp ++ [b]).length (r.getD sh (none, none)) (o.getD sh (none, none)) t := by
      rw [List.length_append]
      exact hdB_mono (Nat.le_add_right _ _) _ _ _
    generalize hdB tp.length (r.getD sh (none, none)) (o.getD sh (none, none)) t = a at *
    generalize hdB (tp ++ [b]).length (r.getD sh (none, none)) (o.getD sh (none, none)) t = c at *
    have h3 : tp.take a = (tp ++ [b]).take a := by rw [List.take_append_of_le_length h1]
    have h4 : ((tp ++ [b]).take a).Sublist ((tp ++ [b]).take c) := (List.take_prefix_take_left h2).sublist
    have h5 := h4.count_le x
    rw [h3]
    exact Int.ofNat_le.mpr h5
  · have e1 : (w.set sh (w.getD sh [] ++ [b])).getD i [] = w.getD i [] := by
      rw [List.getD_eq_getElem?_getD, List.getElem?_set, if_neg e, ← List.getD_eq_getElem?_getD]
    unfold hdAt
    rw [e1]
    exact Int.le_refl _
theorem enB_put {w : Wv} {sh : Nat} {b x k : Int} {bk : List (List Ft)} {t : Bool} (h : enB w bk t x k = true) : enB (w.set sh (w.getD sh [] ++ [b])) bk t x k = true :=
  enB_iff.mpr fun r hr o ho => Int.le_trans (enB_iff.mp h r hr o ho) smV_put
theorem Clk.bookS {S : Stt} {o r : Nat} {gP bP : PV} {w : Wv} {sn un : List Int} (h : Clk S o r gP bP w sn un) (bP' : PV) : Clk (S.set o (.ins "Clerk" (putP' "book" bP' (clF gP bP r sn un)))) o r gP bP' w sn un ∧ Off S (S.set o (.ins "Clerk" (putP' "book" bP' (clF gP bP r sn un)))) o r :=
  ⟨⟨getset_same h.ob, by rw [getset h.ne]; exact h.tp⟩, List.length_set .., fun j h1 h2 => getset h1.symm⟩
/-- who is left -/
def rest (sn now : List Int) : List Int := sn.filter fun x => !decide (x ∈ now)
theorem okW.lose {n : Nat} {w : Wv} (h : okW n w) (sh : Nat) : okW n (w.set sh []) := ⟨by rw [List.length_set]; exact h.1, fun t ht => by
  rcases List.mem_or_eq_of_mem_set ht with q | q
  · exact h.2 t q
  · subst q
    exact ⟨Nat.zero_le _, fun x hx => by cases hx⟩⟩
section
variable {p k : Int} {xs : List Int} {bk : List (List Ft)} (hg : Gnd p k xs) (hb : okB xs.length bk)
include hg hb
section
variable {S : Stt} {o r : Nat} {w : Wv} {sn un : List Int}
/-- what is safe is reckoned anew -/
theorem fn_clerk_reckon (hC : Clk S o r (gv p k xs) (bkP bk) w sn un) (hw : okW xs.length w) (h64 : (srtI w.flatten).length < 64) (hsn : sn.length ≤ 64) :
    Fn (den_Clerk__reckon_anew [.ref o] S) (fun q s => q = .lst (iL (rest sn (snL w bk k))) ∧ Off S s o r ∧ Clk s o r (gv p k xs) (bkP bk) w (snL w bk k) (unL w bk k)) noR := by
  unfold den_Clerk__reckon_anew
  with_reducible refine fn_run ?_ ?_
  exact rfl
  unfold body_Clerk__reckon_anew
  walk_at "fss"
  refine x_fld hC.ob (w := .lst (iL sn)) rfl ?_
  walk_at "fss"
  refine x_fld hC.ob (w := .ref r) rfl ?_
  walk_at "fss"
  refine no_implicit_lambda% (Fn.mono (fn_met S w h64 (.ref r) (.inr ⟨r, rfl, hC.tp⟩)) (fun q s ⟨e1, e2⟩ => ?_) fun _ _ _ h => h.elim)
  subst e1 e2
  have hfl : (snL w bk k).length ≤ (srtI w.flatten).length := List.length_filter_le _ _
  walk_at "fss"
  refine x_meth hC.ob rfl ?_
  walk_at "fss"
  refine ⟨rfl, ?_⟩
  refine no_implicit_lambda% (Fn.mono (fn_clerk_safe hg hb hC hw (srtI w.flatten) (by omega)) (fun q s' ⟨e1, e2⟩ => ?_) fun _ _ _ h => h.elim)
  subst e1 e2
  rw [show (srtI w.flatten).filter (fun b => enB w bk false b k) = snL w bk k from rfl]
  walk_at "fss"
  refine x_setF hC.ob (by show 5 < 1000; decide) fun s1 e1 => ?_
  obtain ⟨C1, O1⟩ := hC.safe (snL w bk k)
  subst e1
  have hml := ints_len (srtI w.flatten)
  walk_at "fss"
  with_reducible refine wp_comp ?_
  walk_at "fss"
  generalize s'.set o (.ins "Clerk" (putP' "safe_now" (.lst (iL (snL w bk k))) (clF (gv p k xs) (bkP bk) r sn un))) = s1 at *
  refine ⟨fun m acc e s => s = s1 ∧ acc = iL (((srtI w.flatten).take m).filter fun x => !decide (x ∈ snL w bk k)) ∧ e = [.val (.ref o), .val (.lst (iL sn)), .val (.lst (iL (srtI w.flatten))), .none], ⟨rfl, rfl, rfl⟩, fun m q acc e s hi ⟨e1, h1, e2⟩ => ?_, fun acc e s ⟨e1, h1, e2⟩ => ?_⟩
  · obtain ⟨x, hx, rfl⟩ := iL_get hi
    have hm : m < (srtI w.flatten).length := (List.getElem?_eq_some_iff.mp hx).1
    have hfl := List.length_filter_le (fun x => !decide (x ∈ snL w bk k)) ((srtI w.flatten).take m)
    rw [List.length_take] at hfl
    subst e1 e2 h1
    walk_at "fss"
    refine x_fld C1.ob (w := .lst (iL (snL w bk k))) rfl ?_
    refine ⟨_, notinL_ints s x (snL w bk k), ?_⟩
    walk_at "fss"
    · rename_i hk
      refine ⟨by rw [ints_len]; exact small_line (by omega), rfl, ?_, rfl⟩
      rw [take_next hx, List.filter_append, show [x].filter (fun x => !decide (x ∈ snL w bk k)) = [x] by simp [hk], ← iL_app]
      rfl
    · rename_i hk
      refine ⟨rfl, ?_, rfl⟩
      rw [take_next hx, List.filter_append, show [x].filter (fun x => !decide (x ∈ snL w bk k)) = [] by simp [hk], List.append_nil]
  subst e1 e2 h1
  rw [hml, List.take_of_length_le (Nat.le_refl _)]
  rw [show (srtI w.flatten).filter (fun x => !decide (x ∈ snL w bk k)) = unL w bk k by
    unfold unL
    refine List.filter_congr fun x hx => ?_
    unfold snL
    rw [Bool.eq_iff_iff]
    simp [hx]]
  walk_at "fss"
  refine x_setF C1.ob (by show 5 < 1000; decide) fun s2 e1 => ?_
  obtain ⟨C2, O2⟩ := C1.unsf (unL w bk k)
  subst e1
  walk_at "fss"
  with_reducible refine wp_comp ?_
  walk_at "fss"
  generalize s.set o (.ins "Clerk" (putP' "unsafe" (.lst (iL (unL w bk k))) (clF (gv p k xs) (bkP bk) r (snL w bk k) un))) = s2 at *
  refine ⟨fun m acc e s => s = s2 ∧ acc = iL ((sn.take m).filter fun x => !decide (x ∈ snL w bk k)) ∧ e = [.val (.ref o), .val (.lst (iL sn)), .val (.lst (iL (srtI w.flatten))), .none], ⟨rfl, rfl, rfl⟩, fun m q acc e s hi ⟨e1, h1, e2⟩ => ?_, fun acc e s ⟨e1, h1, e2⟩ => ?_⟩
  · obtain ⟨x, hx, rfl⟩ := iL_get hi
    have hm : m < sn.length := (List.getElem?_eq_some_iff.mp hx).1
    have hfl := List.length_filter_le (fun x => !decide (x ∈ snL w bk k)) (sn.take m)
    rw [List.length_take] at hfl
    subst e1 e2 h1
    walk_at "fss"
    refine x_fld C2.ob (w := .lst (iL (snL w bk k))) rfl ?_
    refine ⟨_, notinL_ints s x (snL w bk k), ?_⟩
    walk_at "fss"
    · rename_i hk
      refine ⟨by rw [ints_len]; exact small_line (by omega), rfl, ?_, rfl⟩
      rw [take_next hx, List.filter_append, show [x].filter (fun x => !decide (x ∈ snL w bk k)) = [x] by simp [hk], ← iL_app]
      rfl
    · rename_i hk
      refine ⟨rfl, ?_, rfl⟩
      rw [take_next hx, List.filter_append, show [x].filter (fun x => !decide (x ∈ snL w bk k)) = [] by simp [hk], List.append_nil]
  subst e1 e2 h1
  rw [ints_len, List.take_of_length_le (Nat.le_refl _)]
  walk_at "fss"
  exact ⟨rfl, O1.trans O2, C2⟩
theorem fn_clerk_lost (hC : Clk S o r (gv p k xs) (bkP bk) w sn un) (hw : okW xs.length w) (sh : Nat) (hs : sh < xs.length) (h64 : (srtI (w.set sh []).flatten).length < 64) (hsn : sn.length ≤ 64) :
    Fn (den_Clerk__lost [.ref o, .int sh] S) (fun q s => q = tupI (rest sn (snL (w.set sh []) bk k)) ∧ Off S s o r ∧ Clk s o r (gv p k xs) (bkP bk) (w.set sh []) (snL (w.set sh []) bk k) (unL (w.set sh []) bk k)) noR := by
  have hwl := hw.1
  unfold den_Clerk__lost
  with_reducible refine fn_run ?_ ?_
  exact rfl
  unfold body_Clerk__lost
  walk_at "fss"
  refine x_meth hC.ob rfl ?_
  walk_at "fss"
  refine ⟨rfl, ?_⟩
  refine no_implicit_lambda% (Fn.mono (fn_clerk_shelf hg hb hC hwl sh hs) (fun q s e1 => ?_) fun _ _ _ h => h.elim)
  subst e1
  walk_at "fss"
  refine x_fld hC.ob (w := .ref r) rfl ?_
  walk_at "fss"
  refine x_setR rfl rfl hC.tp (ixN_nat (by rw [List.length_map, hwl]; exact hs)) ?_
  rw [show (w.map tupI).set sh (.tup []) = (w.set sh []).map tupI by rw [List.map_set]; rfl]
  obtain ⟨C1, O1⟩ := hC.tape (w.set sh [])
  generalize s.set r (.lst ((w.set sh []).map tupI)) = s1 at C1 O1
  walk_at "fss"
  refine x_meth C1.ob rfl ?_
  walk_at "fss"
  refine ⟨rfl, ?_⟩
  refine no_implicit_lambda% (Fn.mono (fn_clerk_reckon hg hb C1 (hw.lose sh) h64 hsn) (fun q s2 ⟨e1, O2, C2⟩ => ?_) fun _ _ _ h => h.elim)
  subst e1
  walk_at "fss"
  exact ⟨rfl, O1.trans O2, C2⟩
end
end
theorem fn_clerk_change {S : Stt} {o r : Nat} {w : Wv} {sn un : List Int} {p k : Int} {xs : List Int} {bP : PV} (hg : Gnd p k xs) (hC : Clk S o r (gv p k xs) bP w sn un) (hw : okW xs.length w) (bk : List (List Ft)) (hb : okB xs.length bk) (h64 : (srtI w.flatten).length < 64) (hsn : sn.length ≤ 64) :
    Fn (den_Clerk__change [.ref o, bkP bk] S) (fun q s => q = tupI (rest sn (snL w bk k)) ∧ Off S s o r ∧ Clk s o r (gv p k xs) (bkP bk) w (snL w bk k) (unL w bk k)) noR := by
  have hwl := hw.1
  have hn2 := hg.n2
  unfold den_Clerk__change
  with_reducible refine fn_run ?_ ?_
  exact rfl
  unfold body_Clerk__change
  walk_at "fss"
  refine x_fld hC.ob (w := .ref r) rfl ?_
  walk_at "fss"
  refine x_len (lenR hC.tp) ?_
  walk_at "fss"
  rw [List.length_map, hwl]
  refine no_implicit_lambda% (Fn.mono (fn_made_book S xs.length (bk.map rwP) hg.n1 hg.n2 (rws_thb bk) (rws_okd 56 bk) (fun h => hb.1 (List.map_eq_nil_iff.mp h)) (by rw [List.length_map]; exact hb.2.1)) (fun q s ⟨e1, e2, _⟩ => ?_) fun c v s ⟨_, _, i, a, _, h1, h2, _⟩ => ?_)
  · subst e1 e2
    walk_at "fss"
    refine x_setF hC.ob (by show 5 < 1000; decide) fun s1 e1 => ?_
    obtain ⟨C1, O1⟩ := hC.bookS (bkP bk)
    subst e1
    walk_at "fss"
    refine x_meth C1.ob rfl ?_
    walk_at "fss"
    refine ⟨rfl, ?_⟩
    refine no_implicit_lambda% (Fn.mono (fn_clerk_reckon hg hb C1 hw h64 hsn) (fun q s2 ⟨e1, O2, C2⟩ => ?_) fun _ _ _ h => h.elim)
    subst e1
    walk_at "fss"
    exact ⟨rfl, O1.trans O2, C2⟩
  · have := List.all_eq_true.mp (rws_is hb) a (List.mem_of_getElem? h1)
    rw [h2] at this
    cases this
end
end I
end FS
set_option Elab.async false
set_option linter.all false
set_option pp.maxSteps 700
set_option maxRecDepth 100000
set_option maxHeartbeats 8000000
namespace FS
open PySem L2
namespace I
section
local macro_rules | `(tactic| walk_at "okm") => `(tactic| first | (exact okMul_l (by omega)) | (exact okMul_r (by omega)) | decide)
local macro_rules | `(tactic| walk_at "fsW") => `(tactic| first
  | (with_reducible refine wp_useL ?_)
  | (with_reducible refine wp_lenL ?_)
  | (with_reducible refine wp_ixL ?_)
  | (with_reducible refine wp_mthL ?_)
  | ((with_reducible refine wp_gtupC ?_ ?_); exact rfl)
  | ((with_reducible refine wp_gtupZ ?_ ?_); exact rfl))
local macro_rules | `(tactic| walk_at "fsE") => `(tactic| first
  | ((with_reducible show ∃ ys, _ = some (Slot.own ys) ∧ _); refine x_own1 rfl ?_)
  | ((with_reducible refine x_mul ?_ ?_); (walk_at "okm"))
  | ((with_reducible refine x_div ?_ ?_ ?_); omega; omega)
  | ((with_reducible refine x_mod ?_ ?_); omega)
  | ((with_reducible refine x_pow ?_ ?_); decide)
  | ((with_reducible show ∃ k, _ = some (PV.bl k) ∧ _); refine x_chain rfl ?_)
  | ((with_reducible show ∃ n ys, _ = PV.ref n ∧ _ = some (SO.lst ys) ∧ _); refine x_mR rfl rfl ?_)
  | ((with_reducible show ∃ w, pIx _ _ _ = some w ∧ _); refine x_ix rfl ?_)
  | ((with_reducible show ∃ w, fLen _ _ = some w ∧ _); refine x_len rfl ?_)
  | ((with_reducible show ∃ w, fInt _ _ = some w ∧ _); refine x_int rfl ?_)
  | ((with_reducible refine x_isi (w := .bl true) ?_ ?_); exact rfl)
  | ((with_reducible refine x_isi (w := .bl false) ?_ ?_); exact rfl)
  | ((with_reducible show ∃ w, fTuple _ _ = some w ∧ _); refine x_tupf rfl ?_)
  | ((with_reducible show ∃ w, fMin _ _ = some w ∧ _); refine x_minf rfl ?_)
  | ((with_reducible show ∃ w, fMax _ _ = some w ∧ _); refine x_maxf rfl ?_)
  | ((with_reducible show ∃ w, pCut _ _ _ _ = some w ∧ _); refine x_pcut rfl ?_)
  | ((with_reducible show ∃ w, itemsOf _ _ = some w ∧ _); refine x_itm rfl ?_)
  | ((with_reducible show ∃ w, itemsF _ = some w ∧ _); refine x_itF rfl ?_)
  | ((with_reducible show ∃ i, _ = PV.int i ∧ _); refine x_part rfl ?_)
  | ((with_reducible show ∃ p q, _ = [p, q] ∧ _); refine x_par rfl ?_)
  | ((with_reducible show ∃ n xs j m, _ = PV.ref n ∧ _ = PV.int j ∧ _ ∧ _ ∧ _); refine x_setR rfl rfl rfl rfl ?_))
local macro_rules | `(tactic| walk_at "fsR") => `(tactic| first
  | ((with_reducible show Wp _ _ _); (walk_at "fsW"))
  | ((with_reducible show Exists _); (walk_at "fsE"))
  | ((with_reducible show LkS _ _ _); first | refine lks_v rfl ?_ | refine lks_o rfl ?_)
  | ((with_reducible show _ ≤ sizeLine ∧ _); refine x_low rfl ?_)
  | ((with_reducible show List.length _ = _ ∧ _); refine x_num rfl ?_))
local macro_rules | `(tactic| walk_at "fs1") => `(tactic| first | (with_reducible refine run1 ?_) | (walk_at "fsR"))
local macro_rules | `(tactic| walk_at "fs0") => `(tactic| first | (with_reducible refine stp1 ?_) | (walk_at "fsR"))
local macro_rules | `(tactic| walk_at "fs") => `(tactic| repeat (walk_at "fs1"))
local macro_rules | `(tactic| walk_at "fsp") => `(tactic| (with_reducible refine x_spl ?_ ?_) <;> (intro h; first | (simp only [Bool.not_true, Bool.not_false, reduceCtorEq, decide_eq_true_eq, decide_eq_false_iff_not, Bool.not_eq_true', Bool.not_eq_false', Bool.and_eq_true, Int.not_lt, Int.not_le, Bool.or_eq_true, Bool.and_eq_false_iff, Bool.or_eq_false_iff, Bool.false_and, Bool.true_and, Bool.or_false, Bool.false_or, beq_self_eq_true, Bool.true_or, List.isEmpty_nil, List.isEmpty_cons] at h) | skip))
local macro_rules | `(tactic| walk_at "fss") => `(tactic| repeat' (first | (walk_at "fs1") | (walk_at "fsp")))
local macro_rules | `(tactic| walk_at "fd1") => `(tactic| first
  | ((with_reducible apply go_draw); assumption; (first | omega | decide); (first | omega | decide); intro s' v hp hv0 hv1)
  | (walk_at "fs1") | (walk_at "fsp"))
local macro_rules | `(tactic| walk_at "fdi1") => `(tactic| first
  | ((with_reducible apply go_draw); assumption; (first | omega | decide); (first | omega | decide); intro s' v hp hv0 hv1)
  | (walk_at "fs0") | (walk_at "fsp"))
local macro_rules | `(tactic| walk_at "fd") => `(tactic| repeat' (walk_at "fd1"))
local macro_rules | `(tactic| walk_at "fdi") => `(tactic| repeat' ((fail_if_success (with_reducible show Wp (dSeq (dIf _ _ _) _ _ _) _ _)); (walk_at "fdi1")))
theorem Pool.len {rT S : Stt} (h : Pool rT S) : S.length = rT.length + 2 := by
  obtain ⟨a, b, ns, rfl, _⟩ := h
  rfl
theorem Pool.same {rT S s : Stt} (h : Pool rT S) (h' : Pool rT s) {j : Nat} (hj : 2 ≤ j) : s[j]? = S[j]? := by
  obtain ⟨a, b, ns, rfl, _⟩ := h
  obtain ⟨a', b', ns', rfl, _⟩ := h'
  obtain ⟨i, rfl⟩ : ∃ i, j = i + 2 := ⟨j - 2, by omega⟩
  rfl
theorem Pool.ch {rT S s : Stt} (h : Pool rT S) (h0 : s[0]? = S[0]?) (h1 : s[1]? = S[1]?) : Pool (s.drop 2) s := by
  obtain ⟨a, b, ns, rfl, ha⟩ := h
  refine ⟨a, b, ns, ?_, ha⟩
  match s, h0, h1 with
  | [], h0, _ => cases h0
  | [_], _, h1 => cases h1
  | x :: y :: s, h0, h1 =>
    cases h0
    cases h1
    rfl
theorem Pool.off {rT S s : Stt} {o r : Nat} (h : Pool rT S) (ho : 2 ≤ o) (hr : 2 ≤ r) (O : Off S s o r) : Pool (s.drop 2) s := h.ch (O.2 0 (by omega) (by omega)) (O.2 1 (by omega) (by omega))
theorem Clk.same {S s : Stt} {o r : Nat} {gP bP : PV} {w : Wv} {sn un : List Int} (h : Clk S o r gP bP w sn un) (ho : s[o]? = S[o]?) (hr : s[r]? = S[r]?) : Clk s o r gP bP w sn un := ⟨ho.trans h.ob, hr.trans h.tp⟩
/-! ### what the law reckons -/
theorem safe3 {w : Wv} {bk : List (List Ft)} {k : Int} (hbk : bk ≠ []) (hk : 1 ≤ k) (m : Nat) (h3 : ∀ x ∈ w.flatten, (0 : Int) ≤ x ∧ x < m) : ((rgI m).filter fun x => enB w bk false x k) = snL w bk k := by
  refine ris_uniq (ris_filter ?_) (ris_filter (srtI_all _).1) fun x => ?_
  · unfold rgI
    rw [List.pairwise_map]
    exact List.pairwise_lt_range.imp fun h => by omega
  · unfold snL
    rw [List.mem_filter, List.mem_filter, (srtI_all _).2 x]
    constructor
    · rintro ⟨_, h⟩
      exact ⟨Classical.byContradiction (fun q => by
        rw [enB_no hbk hk q] at h
        cases h), h⟩
    · rintro ⟨h1, h⟩
      refine ⟨?_, h⟩
      obtain ⟨a, b⟩ := h3 x h1
      unfold rgI
      exact List.mem_map.mpr ⟨x.toNat, List.mem_range.mpr (by omega), by omega⟩
theorem rgI_next (m : Nat) : rgI (m + 1) = rgI m ++ [(m : Int)] := by
  unfold rgI
  rw [List.range_succ, List.map_append]
  rfl
theorem rgI_len (m : Nat) : (rgI m).length = m := by unfold rgI; simp
theorem wv_okd (w : Wv) : okd 60 (wvP w) = true := okd_tup fun x hx => by
  obtain ⟨r, _, rfl⟩ := List.mem_map.mp hx
  exact okd_intsT 58 _
theorem x_eqW {s : Stt} {w : Wv} {Q : PV → Prop} (h : Q (.bl true)) : ∃ v, pEq s (wvP w) (wvP w) = some v ∧ Q v := x_eqS (wv_okd w) (tapes_thb w) h
theorem x_neI {s : Stt} {xs : List Int} {Q : PV → Prop} (h : Q (.bl false)) : ∃ v, pNe s (tupI xs) (tupI xs) = some v ∧ Q v := x_neS (okd_intsT 59 xs) (ints_thb xs) h
def St17 (rT s : Stt) (gP bP : PV) (w : Wv) (sn un : List Int) : Prop := Pool rT s ∧ Clk s 2 3 gP bP w sn un ∧ s[4]? = some (.lst (w.map tupI))
theorem St17.draw (h : St17 rT S gP bP w sn un) (hP : Pool rT s) : St17 rT s gP bP w sn un :=
  ⟨hP, h.2.1.same (h.1.same hP (by decide)) (h.1.same hP (by decide)), (h.1.same hP (by decide)).trans h.2.2⟩
theorem St17.call {bP' : PV} {w' : Wv} {sn' un' : List Int} (hP : Pool rT S) (O : Off S s 2 3) (hC : Clk s 2 3 gP bP' w' sn' un') (h4 : S[4]? = some (.lst (w'.map tupI))) : St17 (s.drop 2) s gP bP' w' sn' un' :=
  ⟨hP.off (by decide) (by decide) O, hC, (O.2 4 (by decide) (by decide)).trans h4⟩
theorem St17.tape (h : St17 rT S gP bP w sn un) (w' : Wv) : Pool ((S.set 4 (.lst (w'.map tupI))).drop 2) (S.set 4 (.lst (w'.map tupI))) ∧ Clk (S.set 4 (.lst (w'.map tupI))) 2 3 gP bP w sn un ∧ (S.set 4 (.lst (w'.map tupI)))[4]? = some (.lst (w'.map tupI)) :=
  ⟨h.1.ch (getset (by decide)) (getset (by decide)), h.2.1.same (getset (by decide)) (getset (by decide)), getset_same h.2.2⟩
theorem flat_lose {w : Wv} {sh : Nat} {x : Int} (h : x ∈ (w.set sh []).flatten) : x ∈ w.flatten := by
  obtain ⟨t, ht, hx⟩ := List.mem_flatten.mp h
  rcases List.mem_or_eq_of_mem_set ht with q | q
  · exact List.mem_flatten.mpr ⟨t, q, hx⟩
  · subst q
    cases hx
theorem flat_put {w : Wv} {sh : Nat} {b x : Int} (h : x ∈ (w.set sh (w.getD sh [] ++ [b])).flatten) : x ∈ w.flatten ∨ x = b := by
  obtain ⟨t, ht, hx⟩ := List.mem_flatten.mp h
  rcases List.mem_or_eq_of_mem_set ht with q | q
  · exact .inl (List.mem_flatten.mpr ⟨t, q, hx⟩)
  · subst q
    rcases List.mem_append.mp hx with q | q
    · by_cases hs : sh < w.length
      · exact .inl (List.mem_flatten.mpr ⟨_, getD_mem (d := []) hs, q⟩)
      · rw [List.getD_eq_getElem?_getD, List.getElem?_eq_none (by omega)] at q
        cases q
    · exact .inr (List.mem_singleton.mp q)
end
end I
end FS
set_option Elab.async false
set_option linter.all false
set_option pp.maxSteps 700
set_option maxRecDepth 100000
set_option maxHeartbeats 8000000
namespace FS
open PySem L2
namespace I
section
local macro_rules | `(tactic| walk_at "okm") => `(tactic| first | (exact okMul_l (by omega)) | (exact okMul_r (by omega)) | decide)
local macro_rules | `(tactic| walk_at "fsW") => `(tactic| first
  | (with_reducible refine wp_useL ?_)
  | (with_reducible refine wp_lenL ?_)
  | (with_reducible refine wp_ixL ?_)
  | (with_reducible refine wp_mthL ?_)
  | ((with_reducible refine wp_gtupC ?_ ?_); exact rfl)
  | ((with_reducible refine wp_gtupZ ?_ ?_); exact rfl))
local macro_rules | `(tactic| walk_at "fsE") => `(tactic| first
  | ((with_reducible show ∃ ys, _ = some (Slot.own ys) ∧ _); refine x_own1 rfl ?_)
  | ((with_reducible refine x_mul ?_ ?_); (walk_at "okm"))
  | ((with_reducible refine x_div ?_ ?_ ?_); omega; omega)
  | ((with_reducible refine x_mod ?_ ?_); omega)
  | ((with_reducible refine x_pow ?_ ?_); decide)
  | ((with_reducible show ∃ k, _ = some (PV.bl k) ∧ _); refine x_chain rfl ?_)
  | ((with_reducible show ∃ n ys, _ = PV.ref n ∧ _ = some (SO.lst ys) ∧ _); refine x_mR rfl rfl ?_)
  | ((with_reducible show ∃ w, pIx _ _ _ = some w ∧ _); refine x_ix rfl ?_)
  | ((with_reducible show ∃ w, fLen _ _ = some w ∧ _); refine x_len rfl ?_)
  | ((with_reducible show ∃ w, fInt _ _ = some w ∧ _); refine x_int rfl ?_)
  | ((with_reducible refine x_isi (w := .bl true) ?_ ?_); exact rfl)
  | ((with_reducible refine x_isi (w := .bl false) ?_ ?_); exact rfl)
  | ((with_reducible show ∃ w, fTuple _ _ = some w ∧ _); refine x_tupf rfl ?_)
  | ((with_reducible show ∃ w, fMin _ _ = some w ∧ _); refine x_minf rfl ?_)
  | ((with_reducible show ∃ w, fMax _ _ = some w ∧ _); refine x_maxf rfl ?_)
  | ((with_reducible show ∃ w, pCut _ _ _ _ = some w ∧ _); refine x_pcut rfl ?_)
  | ((with_reducible show ∃ w, itemsOf _ _ = some w ∧ _); refine x_itm rfl ?_)
  | ((with_reducible show ∃ w, itemsF _ = some w ∧ _); refine x_itF rfl ?_)
  | ((with_reducible show ∃ i, _ = PV.int i ∧ _); refine x_part rfl ?_)
  | ((with_reducible show ∃ p q, _ = [p, q] ∧ _); refine x_par rfl ?_)
  | ((with_reducible show ∃ n xs j m, _ = PV.ref n ∧ _ = PV.int j ∧ _ ∧ _ ∧ _); refine x_setR rfl rfl rfl rfl ?_))
local macro_rules | `(tactic| walk_at "fsR") => `(tactic| first
  | ((with_reducible show Wp _ _ _); (walk_at "fsW"))
  | ((with_reducible show Exists _); (walk_at "fsE"))
  | ((with_reducible show LkS _ _ _); first | refine lks_v rfl ?_ | refine lks_o rfl ?_)
  | ((with_reducible show _ ≤ sizeLine ∧ _); refine x_low rfl ?_)
  | ((with_reducible show List.length _ = _ ∧ _); refine x_num rfl ?_))
local macro_rules | `(tactic| walk_at "fs1") => `(tactic| first | (with_reducible refine run1 ?_) | (walk_at "fsR"))
local macro_rules | `(tactic| walk_at "fs0") => `(tactic| first | (with_reducible refine stp1 ?_) | (walk_at "fsR"))
local macro_rules | `(tactic| walk_at "fs") => `(tactic| repeat (walk_at "fs1"))
local macro_rules | `(tactic| walk_at "fsp") => `(tactic| (with_reducible refine x_spl ?_ ?_) <;> (intro h; first | (simp only [Bool.not_true, Bool.not_false, reduceCtorEq, decide_eq_true_eq, decide_eq_false_iff_not, Bool.not_eq_true', Bool.not_eq_false', Bool.and_eq_true, Int.not_lt, Int.not_le, Bool.or_eq_true, Bool.and_eq_false_iff, Bool.or_eq_false_iff, Bool.false_and, Bool.true_and, Bool.or_false, Bool.false_or, beq_self_eq_true, Bool.true_or, List.isEmpty_nil, List.isEmpty_cons] at h) | skip))
local macro_rules | `(tactic| walk_at "fss") => `(tactic| repeat' (first | (walk_at "fs1") | (walk_at "fsp")))
local macro_rules | `(tactic| walk_at "fd1") => `(tactic| first
  | ((with_reducible apply go_draw); assumption; (first | omega | decide); (first | omega | decide); intro s' v hp hv0 hv1)
  | (walk_at "fs1") | (walk_at "fsp"))
local macro_rules | `(tactic| walk_at "fdi1") => `(tactic| first
  | ((with_reducible apply go_draw); assumption; (first | omega | decide); (first | omega | decide); intro s' v hp hv0 hv1)
  | (walk_at "fs0") | (walk_at "fsp"))
local macro_rules | `(tactic| walk_at "fd") => `(tactic| repeat' (walk_at "fd1"))
local macro_rules | `(tactic| walk_at "fdi") => `(tactic| repeat' ((fail_if_success (with_reducible show Wp (dSeq (dIf _ _ _) _ _ _) _ _)); (walk_at "fdi1")))
local macro_rules | `(tactic| walk_at "fsi") => `(tactic| repeat' ((fail_if_success (with_reducible show Wp (dSeq (dIf _ _ _) _ _ _) _ _)); first | (walk_at "fs0") | (walk_at "fsp")))
/-! ### the same tapes, written by another clerk -/
structure An (S0 : Stt) (L n : Nat) (rT s : Stt) (gP bP : PV) (w2 u : Wv) (sn un f : List Int) : Prop where
  po : Pool rT s
  ck : Clk s L (L + 1) gP bP w2 sn un
  ul : u.length = n
  lf : ∀ i, i < n → s[L + 2 + i]? = some (.lst (iL (u.getD i [])))
  fd : s[L + 2 + n]? = some (.lst (iL f))
  old : ∀ j, 2 ≤ j → j < L → s[j]? = S0[j]?
section
variable {S0 rT s : Stt} {L n : Nat} {gP bP : PV} {w2 u : Wv} {sn un f : List Int}
theorem An.draw {s' : Stt} (h : An S0 L n rT s gP bP w2 u sn un f) (hL : 2 ≤ L) (hP : Pool rT s') : An S0 L n rT s' gP bP w2 u sn un f :=
  ⟨hP, h.ck.same (h.po.same hP hL) (h.po.same hP (by omega)), h.ul, fun i hi => (h.po.same hP (by omega)).trans (h.lf i hi), (h.po.same hP (by omega)).trans h.fd, fun j h1 h2 => (h.po.same hP h1).trans (h.old j h1 h2)⟩
theorem getD_set {α : Type} {xs : List α} {i j : Nat} {x d : α} (hj : j < xs.length) : (xs.set i x).getD j d = if i = j then x else xs.getD j d := by
  rw [List.getD_eq_getElem?_getD, List.getElem?_set]
  by_cases e : i = j
  · subst e
    rw [if_pos rfl, if_pos rfl, if_pos hj]
    rfl
  · rw [if_neg e, if_neg e, List.getD_eq_getElem?_getD]
theorem An.pop (h : An S0 L n rT s gP bP w2 u sn un f) (hL : 2 ≤ L) {i : Nat} (hi : i < n) (t : List Int) : An S0 L n ((s.set (L + 2 + i) (.lst (iL t))).drop 2) (s.set (L + 2 + i) (.lst (iL t))) gP bP w2 (u.set i t) sn un f :=
  ⟨h.po.ch (getset (by omega)) (getset (by omega)), h.ck.same (getset (by omega)) (getset (by omega)), by rw [List.length_set]; exact h.ul, fun j hj => by
    rw [getD_set (by rw [h.ul]; exact hj)]
    by_cases e : i = j
    · subst e
      rw [if_pos rfl]
      exact getset_same (h.lf i hi)
    · rw [if_neg e, getset (by omega)]
      exact h.lf j hj, (getset (by omega)).trans h.fd, fun j h1 h2 => (getset (by omega)).trans (h.old j h1 h2)⟩
theorem An.wr {s' : Stt} {w' : Wv} {sn' un' : List Int} (h : An S0 L n rT s gP bP w2 u sn un f) (hL : 2 ≤ L) (O : Off s s' L (L + 1)) (hC : Clk s' L (L + 1) gP bP w' sn' un') : An S0 L n (s'.drop 2) s' gP bP w' u sn' un' f :=
  ⟨h.po.off (by omega) (by omega) O, hC, h.ul, fun i hi => (O.2 _ (by omega) (by omega)).trans (h.lf i hi), (O.2 _ (by omega) (by omega)).trans h.fd, fun j h1 h2 => (O.2 _ (by omega) (by omega)).trans (h.old j h1 h2)⟩
theorem An.ex (h : An S0 L n rT s gP bP w2 u sn un f) (hL : 2 ≤ L) (f' : List Int) : An S0 L n ((s.set (L + 2 + n) (.lst (iL f'))).drop 2) (s.set (L + 2 + n) (.lst (iL f'))) gP bP w2 u sn un f' :=
  ⟨h.po.ch (getset (by omega)) (getset (by omega)), h.ck.same (getset (by omega)) (getset (by omega)), h.ul, fun i hi => (getset (by omega)).trans (h.lf i hi), getset_same h.fd, fun j h1 h2 => (getset (by omega)).trans (h.old j h1 h2)⟩
end
/-- the shelves with cells left -/
def nz (u : Wv) (m : Nat) : List Int := (rgI m).filter fun x => !(u.getD x.toNat []).isEmpty
theorem nz_next (u : Wv) (m : Nat) : nz u (m + 1) = nz u m ++ (if (u.getD m []).isEmpty = true then [] else [(m : Int)]) := by
  unfold nz
  rw [rgI_next, List.filter_append, List.filter_cons]
  rw [Int.toNat_natCast]
  cases (u.getD m []).isEmpty <;> rfl
theorem nz_mem {u : Wv} {m : Nat} {x : Int} (h : x ∈ nz u m) : ∃ i : Nat, x = i ∧ i < m ∧ u.getD i [] ≠ [] := by
  unfold nz rgI at h
  obtain ⟨h1, h2⟩ := List.mem_filter.mp h
  obtain ⟨i, hi, rfl⟩ := List.mem_map.mp h1
  refine ⟨i, rfl, List.mem_range.mp hi, fun e => ?_⟩
  rw [Int.toNat_natCast, e] at h2
  cases h2
theorem nz_len {u : Wv} {m : Nat} : (nz u m).length ≤ m := by
  unfold nz
  exact Nat.le_trans (List.length_filter_le _ _) (Nat.le_of_eq (rgI_len m))
def tot (u : Wv) : Nat := (u.map List.length).sum
theorem tot_set : ∀ {u : Wv} {i : Nat} {x : Int} {t : List Int}, u[i]? = some (x :: t) → tot u = tot (u.set i t) + 1
  | [], i, x, t, h => by simp at h
  | y :: u, 0, x, t, h => by
    cases h
    show (t.length + 1) + tot u = t.length + tot u + 1
    omega
  | y :: u, i + 1, x, t, h => by
    have ih := tot_set (u := u) (i := i) (x := x) (t := t) (by simpa using h)
    show y.length + tot u = y.length + tot (u.set i t) + 1
    omega
theorem tot_zero : ∀ {u : Wv}, (∀ i, i < u.length → u.getD i [] = []) → tot u = 0
  | [], _ => rfl
  | y :: u, h => by
    have h0 : y = [] := h 0 (Nat.succ_pos _)
    subst h0
    show 0 + tot u = 0
    rw [tot_zero fun i hi => h (i + 1) (Nat.succ_lt_succ hi)]
theorem zero_tot : ∀ {u : Wv}, tot u = 0 → ∀ i, u.getD i [] = []
  | [], _, i => rfl
  | y :: u, h, i => by
    have h : y.length + tot u = 0 := h
    cases i with
    | zero =>
      have h2 : y.length = 0 := by omega
      exact List.length_eq_zero_iff.mp h2
    | succ i => exact zero_tot (u := u) (by omega) i
theorem nz_ne {u : Wv} {n : Nat} (hu : u.length = n) (h : tot u ≠ 0) : nz u n ≠ [] := fun e => h (tot_zero fun i hi => Classical.byContradiction fun q => by
  have : (i : Int) ∈ nz u n := by
    unfold nz rgI
    refine List.mem_filter.mpr ⟨List.mem_map.mpr ⟨i, List.mem_range.mpr (by omega), rfl⟩, ?_⟩
    rw [Int.toNat_natCast]
    cases e2 : u.getD i [] with
    | nil => exact absurd e2 q
    | cons a r => rfl
  rw [e] at this
  cases this)
theorem neR {s : Stt} {r : Nat} {xs : List Int} (h : s[r]? = some (.lst (iL xs))) : pNe s (.ref r) (.lst []) = some (.bl (!xs.isEmpty)) := by
  have e : res s (.ref r) = .lst (iL xs) := by unfold res; simp only [h]
  refine pNe_v (p := .ref r) (q := .lst []) (b := xs.isEmpty) (by rw [e]; exact okd_ints xs) rfl (by unfold seen; simp only [h]; rfl) rfl ?_
  rw [e]
  exact FS.eqv_nil xs
theorem extT_ok {xs ys : List PV} (h : xs.length + ys.length ≤ sizeLine) : mExtT xs [.tup ys] = some (.non, xs ++ ys) := by
  show (if xs.length + ys.length ≤ sizeLine then some (PV.non, xs ++ ys) else none) = _
  rw [if_pos h]
theorem fsum_len (w : Wv) : ((w.map fun t => (t.length : Int)).sum) = (tot w : Nat) := by
  induction w with
  | nil => rfl
  | cons t w ih =>
    rw [List.map_cons, List.sum_cons, ih]
    show (t.length : Int) + (tot w : Nat) = ((t.length + tot w : Nat) : Int)
    omega
section
variable {p k : Int} {xs : List Int} {bk : List (List Ft)} (hg : Gnd p k xs) (hb : okB xs.length bk)
include hg hb
theorem fn_anew (S rT : Stt) (hP : Pool rT S) (w : Wv) (hw : okW xs.length w) (r : Nat) (hr : S[r]? = some (.lst (w.map tupI))) (hr2 : 2 ≤ r) (h3 : ∀ x ∈ w.flatten, (0 : Int) ≤ x ∧ x < (3 : Nat)) (ht : tot w ≤ 100) :
    Fn (den__law_anew [.ref 1, gv p k xs, bkP bk, .ref r] S) (fun q s => q = .tup [tupI (snL w bk k), wvP w, tupI (snL w bk k)] ∧ ∀ j, 2 ≤ j → j < S.length → s[j]? = S[j]?) noR := by
  have hn2 := hg.n2
  have hk1 := hg.k1
  have hwl := hw.1
  have hlm : (w.map tupI).length = xs.length := by rw [List.length_map, hwl]
  have hSl := hP.len
  have hrl : r < S.length := (List.getElem?_eq_some_iff.mp hr).1
  have hf0 : (List.replicate xs.length ([] : List Int)).flatten = [] := List.eq_nil_iff_forall_not_mem.mpr fun x hx => by
    obtain ⟨t, ht, hx⟩ := List.mem_flatten.mp hx
    rw [List.eq_of_mem_replicate ht] at hx
    cases hx
  unfold den__law_anew
  with_reducible refine fn_run ?_ ?_
  exact rfl
  unfold body__law_anew
  walk_at "fss"
  refine ⟨rfl, ?_⟩
  refine no_implicit_lambda% (Fn.mono (fn_clerk hg hb S) (fun q s1 ⟨e1, a, c, e2, hC⟩ => ?_) fun _ _ _ h => False.elim h)
  subst e1
  refine ⟨rfl, ?_⟩
  generalize hL : S.length = L at *
  have hl1 : s1.length = L + 2 := by rw [e2, List.length_append, hL]; rfl
  have hlo : ∀ {r' : Stt} {j : Nat}, j < L → (s1 ++ r')[j]? = S[j]? := fun {r' j} h => by
    rw [e2, List.append_assoc, List.getElem?_append_left (by omega)]
  have hlo1 : ∀ {r' : Stt} {j : Nat}, j < L + 2 → (s1 ++ r')[j]? = s1[j]? := fun {r' j} h => List.getElem?_append_left (by omega)
  clear e2
  walk_at "fss"
  refine wp_compR (wp_use rfl ⟨r, w.map tupI, rfl, by have := hlo (r' := []) hrl; rw [List.append_nil] at this; exact this.trans hr, fun m acc e s => s = s1 ++ (w.take m).map (fun t => SO.lst (iL t)) ∧ acc = rgF m (fun i => .ref (L + 2 + i)) ∧ e = [.val (.ref 1), .val (gv p k xs), .val (bkP bk), .val (.ref r), .none, .none, .none, .none, .none, .none, .none], ⟨by rw [List.take_zero]; simp, rfl, rfl⟩, fun m acc e s ⟨e1, _⟩ => by rw [e1]; exact (hlo hrl).trans hr, fun m q acc e s hi ⟨e1, h1, e2⟩ => ?_, fun acc e s ⟨e1, h1, e2⟩ => ?_⟩)
  · obtain ⟨hm, rfl⟩ := map_get (d := []) hi
    have hwm : (w.take m).length = m := by rw [List.length_take]; omega
    subst e1 e2 h1
    walk_at "fss"
    have e9 : w.take (m + 1) = w.take m ++ [w.getD m []] := take_next (by rw [List.getD_eq_getElem?_getD, List.getElem?_eq_getElem hm]; rfl)
    refine ⟨by rw [rgF_len]; exact small_line (by omega), ?_, ?_, rfl⟩
    · rw [e9, List.map_append, ← List.append_assoc]
      rfl
    · rw [rgF_next, List.length_append, hl1, List.length_map, hwm]
  subst e1 e2 h1
  rw [hlm, List.take_of_length_le (by omega)]
  walk_at "fss"
  have hsl : (s1 ++ w.map fun t => SO.lst (iL t)).length = L + 2 + xs.length := by rw [List.length_append, hl1, List.length_map, hwl]
  rw [hsl]
  have A0 : An S L xs.length (((s1 ++ w.map fun t => SO.lst (iL t)) ++ [SO.lst []]).drop 2) ((s1 ++ w.map fun t => SO.lst (iL t)) ++ [SO.lst []]) (gv p k xs) (bkP bk) (List.replicate xs.length []) w [] [] [] := by
    refine ⟨?_, ?_, hwl, fun i hi => ?_, ?_, fun j h1 h2 => ?_⟩
    · refine hP.ch ?_ ?_
      · rw [List.append_assoc]; exact hlo (by omega)
      · rw [List.append_assoc]; exact hlo (by omega)
    · refine hC.same ?_ ?_
      · rw [List.append_assoc]; exact hlo1 (by omega)
      · rw [List.append_assoc]; exact hlo1 (by omega)
    · rw [List.getElem?_append_left (by omega), List.getElem?_append_right (by omega), hl1, show L + 2 + i - (L + 2) = i by omega, List.getElem?_map, List.getElem?_eq_getElem (by omega), List.getD_eq_getElem?_getD, List.getElem?_eq_getElem (by omega)]
      rfl
    · rw [List.getElem?_append_right (by omega), hsl, Nat.sub_self]
      rfl
    · rw [List.append_assoc]
      exact hlo h2
  generalize (s1 ++ w.map fun t => SO.lst (iL t)) ++ [SO.lst []] = s2 at *
  generalize s2.drop 2 = rT2 at A0
  clear hlo hlo1 hC
  walk_at "fss"
  with_reducible refine wp_for ?_
  walk_at "fss"
  refine wp_compR (wp_use rfl ⟨r, w.map tupI, rfl, (A0.old r hr2 hrl).trans hr, fun m acc e s => s = s2 ∧ acc = iL ((w.map fun t => (t.length : Int)).take m) ∧ e = [.val (.ref 1), .val (gv p k xs), .val (bkP bk), .val (.ref r), .val (.ref L), .val (.lst (rgF xs.length fun i => .ref (L + 2 + i))), .val (.ref (L + 2 + xs.length)), .none, .none, .none, .none], ⟨rfl, rfl, rfl⟩, fun m acc e s ⟨e1, _⟩ => by rw [e1]; exact (A0.old r hr2 hrl).trans hr, fun m q acc e s hi ⟨e1, h1, e2⟩ => ?_, fun acc e s ⟨e1, h1, e2⟩ => ?_⟩)
  · obtain ⟨hm, rfl⟩ := map_get (d := []) hi
    subst e1 e2 h1
    walk_at "fss"
    refine ⟨by rw [ints_len, List.length_take]; exact small_line (by omega), rfl, ?_, rfl⟩
    rw [take_map (d := []) _ hm, ← iL_app, ints_len]
    rfl
  subst e1 e2 h1
  rw [hlm, List.take_of_length_le (by rw [List.length_map]; omega)]
  walk_at "fss"
  refine x_sumL (intsOf_map _) ?_
  rw [fsum_len]
  walk_at "fss"
  refine x_rng1 (by omega) (by omega) ?_
  rw [Int.toNat_natCast]
  refine ⟨fun m e s => ∃ (rT : Stt) (w2 u : Wv) (f : List Int) (x7 x8 x9 x10 : Slot), An S L xs.length rT s (gv p k xs) (bkP bk) w2 u (snL w2 bk k) (unL w2 bk k) f ∧ okW xs.length w2 ∧ (∀ i, i < xs.length → w2.getD i [] ++ u.getD i [] = w.getD i []) ∧ tot u + m = tot w ∧ f.Perm (snL w2 bk k) ∧ e = [.val (.ref 1), .val (gv p k xs), .val (bkP bk), .val (.ref r), .val (.ref L), .val (.lst (rgF xs.length fun i => .ref (L + 2 + i))), .val (.ref (L + 2 + xs.length)), x7, x8, x9, x10], ⟨rT2, List.replicate xs.length [], w, [], _, _, _, _, ?_, ?_, ?_, rfl, ?_, rfl⟩, fun m q e s hi ⟨rT3, w2, u, f, x7, x8, x9, x10, hA, hw2, hwu, htu, hf, e2⟩ => ?_, fun e s ⟨rT3, w2, u, f, x7, x8, x9, x10, hA, hw2, hwu, htu, hf, e2⟩ => ?_⟩
  · have hz0 : snL (List.replicate xs.length []) bk k = [] := by unfold snL; rw [hf0]; rfl
    have hz1 : unL (List.replicate xs.length []) bk k = [] := by unfold unL; rw [hf0]; rfl
    rw [hz0, hz1]
    exact A0
  · exact ⟨List.length_replicate, fun t ht => by
      rw [List.eq_of_mem_replicate ht]
      exact ⟨Nat.zero_le _, fun x hx => by cases hx⟩⟩
  · intro i hi
    rw [List.getD_eq_getElem?_getD, List.getElem?_replicate, if_pos hi]
    rfl
  · have hz0 : snL (List.replicate xs.length []) bk k = [] := by unfold snL; rw [hf0]; rfl
    rw [hz0]
  · obtain ⟨hm, rfl⟩ := rng_get _ _ _ _ hi
    have hL2 : 2 ≤ L := by omega
    have hne := List.length_pos_iff.mpr (nz_ne hA.ul (by omega : tot u ≠ 0))
    have hnl := nz_len (u := u) (m := xs.length)
    have hP3 := hA.po
    subst e2
    walk_at "fss"
    with_reducible refine wp_comp ?_
    walk_at "fss"
    rw [rgF_len]
    refine x_rng1 (by omega) (by omega) ?_
    rw [Int.toNat_natCast]
    refine ⟨fun j acc e s' => s' = s ∧ acc = iL (nz u j) ∧ e = [.val (.ref 1), .val (gv p k xs), .val (bkP bk), .val (.ref r), .val (.ref L), .val (.lst (rgF xs.length fun i => .ref (L + 2 + i))), .val (.ref (L + 2 + xs.length)), x7, .val (.int m), x9, .none], ⟨rfl, rfl, rfl⟩, fun j q acc e s' hi ⟨e1, h1, e2⟩ => ?_, fun acc e s' ⟨e1, h1, e2⟩ => ?_⟩
    · obtain ⟨hj, rfl⟩ := rng_get _ _ _ _ hi
      have hnj := nz_len (u := u) (m := j)
      subst e1 e2 h1
      walk_at "fss"
      refine x_ix (atI_nat (rgF_get hj)) ?_
      walk_at "fss"
      refine ⟨_, neR (hA.lf j hj), ?_⟩
      walk_at "fss"
      · rename_i h
        refine ⟨by rw [ints_len]; exact small_line (by omega), rfl, ?_, rfl⟩
        rw [nz_next, if_neg (by simpa using h), ← iL_app]
        rfl
      · rename_i h
        refine ⟨rfl, ?_, rfl⟩
        rw [nz_next, if_pos (by simpa using h), List.append_nil]
    subst e1 e2 h1
    rw [List.length_map, List.length_range]
    walk_at "fd"
    rw [ints_len]
    walk_at "fd"
    rename_i s3 v hP4 v0 v1
    have hA := hA.draw hL2 hP4
    obtain ⟨x, hx, hxa⟩ := atI_of v0 (by rw [ints_len]; exact v1 : v < ((iL (nz u xs.length)).length : Nat))
    obtain ⟨y, hy, rfl⟩ := List.mem_map.mp hx
    obtain ⟨i, rfl, hi, hui⟩ := nz_mem hy
    refine x_ix hxa ?_
    walk_at "fd"
    obtain ⟨b, t, hbt⟩ : ∃ b t, u.getD i [] = b :: t := by
      cases e : u.getD i [] with
      | nil => exact absurd e hui
      | cons b t => exact ⟨b, t, rfl⟩
    have hlf := hA.lf i hi
    rw [hbt] at hlf
    have hwi := hwu i hi
    rw [hbt] at hwi
    have hwin : w.getD i [] ∈ w := getD_mem (d := []) (by omega)
    have hb3 := h3 b (List.mem_flatten.mpr ⟨_, hwin, by rw [← hwi]; simp⟩)
    have hwl2 := (hw.2 _ hwin).1
    have hlen : (w2.getD i []).length + (t.length + 1) = (w.getD i []).length := by rw [← hwi, List.length_append, List.length_cons]
    have hin2 : ∀ z ∈ w2.flatten, (0 : Int) ≤ z ∧ z < (3 : Nat) := fun z hz => by
      obtain ⟨tp, htp, hzt⟩ := List.mem_flatten.mp hz
      obtain ⟨j, hj, rfl⟩ := List.getElem_of_mem htp
      have hj2 : j < xs.length := by have := hw2.1; omega
      refine h3 z (List.mem_flatten.mpr ⟨_, getD_mem (d := []) (by omega : j < w.length), ?_⟩)
      rw [← hwu j hj2, List.getD_eq_getElem?_getD, List.getElem?_eq_getElem hj]
      exact List.mem_append_left _ hzt
    have hkl := keep_len (w := w2) (bk := bk) (k := k)
    have hsf : (srtI w2.flatten).length ≤ 3 := srtI_few (n := 3) fun tp htp z hz => hin2 z (List.mem_flatten.mpr ⟨tp, htp, hz⟩)
    have hfl := hf.length_eq
    refine x_mR rfl hA.fd ?_
    walk_at "fd"
    refine x_meth hA.ck.ob rfl ?_
    walk_at "fd"
    refine x_ix (atI_nat (rgF_get hi)) ?_
    refine x_mR rfl hlf ?_
    walk_at "fd"
    refine x_mf hlf pop0 ?_
    have hA2 := hA.pop hL2 hi t
    rw [show iL t = List.map PV.int t from rfl] at hA2
    generalize s3.set (L + 2 + i) (.lst (List.map PV.int t)) = s4 at hA2 ⊢
    walk_at "fd"
    refine ⟨rfl, ?_⟩
    have hsl2 : i < w2.length := by have := hw2.1; omega
    have hm2 : ∀ x, enB w2 bk false x k = true → enB (w2.set i (w2.getD i [] ++ [b])) bk false x k = true := fun x hx => enB_put hx
    refine no_implicit_lambda% (Fn.mono (fn_clerk_write hg hb hA2.ck hw2 (by omega) i b hi hb3.1 (by omega) (by omega)) (fun q s5 ⟨e1, O, C⟩ => ?_) fun _ _ _ h => False.elim h)
    have hpm : (snL w2 bk k ++ nwL w2 (w2.set i (w2.getD i [] ++ [b])) bk k).Perm (snL (w2.set i (w2.getD i [] ++ [b])) bk k) := by
      rw [← nws_eq hb.1 hk1 hsl2 hm2, ← sn2_eq hb.1 hk1 hsl2 hm2]
      exact (List.mergeSort_perm _ _).symm
    rw [nws_eq hb.1 hk1 hsl2 hm2] at e1
    rw [sn2_eq hb.1 hk1 hsl2 hm2, un2_eq hb.1 hk1 hsl2 hm2] at C
    have hA3 := hA2.wr hL2 O C
    have hnw : (nwL w2 (w2.set i (w2.getD i [] ++ [b])) bk k).length ≤ 10 := by
      have h1 : (srtI (w2.set i (w2.getD i [] ++ [b])).flatten).length ≤ 3 := srtI_few (n := 3) fun tp htp z hz => by
        rcases (mem_put hsl2).mp (List.mem_flatten.mpr ⟨tp, htp, hz⟩) with q | q
        · exact hin2 z q
        · rw [q]
          exact hb3
      exact Nat.le_trans (List.length_filter_le _ _) (by omega)
    subst e1
    walk_at "fd"
    refine x_mf hA3.fd (extT_ok (Nat.le_of_lt (small_line (by rw [ints_len, ints_len]; omega)))) ?_
    rw [iL_app]
    have hA4 := hA3.ex hL2 (f ++ nwL w2 (w2.set i (w2.getD i [] ++ [b])) bk k)
    walk_at "fd"
    refine ⟨_, _, _, _, _, _, _, _, hA4, hw2.put (by omega) hb3.1 (by omega), fun j hj => ?_, ?_, (hf.append_right _).trans hpm, rfl⟩
    · rw [getD_set (by have := hw2.1; omega), getD_set (by rw [hA.ul]; exact hj)]
      by_cases e : i = j
      · subst e
        rw [if_pos rfl, if_pos rfl, ← hwi, List.append_assoc]
        rfl
      · rw [if_neg e, if_neg e]
        exact hwu j hj
    · have hui2 : u[i]? = some (b :: t) := by
        have hul := hA.ul
        rw [List.getElem?_eq_getElem (by omega)]
        rw [List.getD_eq_getElem?_getD, List.getElem?_eq_getElem (by omega)] at hbt
        exact congrArg some hbt
      have := tot_set hui2
      omega
  · rw [List.length_map, List.length_range] at htu
    have hz := zero_tot (by omega : tot u = 0)
    have e : w2 = w := by
      refine List.ext_getElem? fun i => ?_
      by_cases hi : i < xs.length
      · have h1 := hwu i hi
        have hw2l := hw2.1
        rw [hz i, List.append_nil, List.getD_eq_getElem?_getD, List.getD_eq_getElem?_getD, List.getElem?_eq_getElem (by omega), List.getElem?_eq_getElem (by omega)] at h1
        rw [List.getElem?_eq_getElem (by omega), List.getElem?_eq_getElem (by omega)]
        exact congrArg some h1
      · have hw2l := hw2.1
        rw [List.getElem?_eq_none (by omega), List.getElem?_eq_none (by omega)]
    subst e
    have hsrt : f.mergeSort leI = snL w2 bk k := by
      have hnd : (snL w2 bk k).Pairwise (· < ·) := ris_filter (srtI_all _).1
      refine ris_uniq (srt_ris (hf.nodup_iff.mpr (ris_nodup hnd))) hnd fun x => ?_
      rw [mem_srt]
      exact hf.mem_iff
    subst e2
    walk_at "fss"
    refine x_meth hA.ck.ob rfl ?_
    walk_at "fss"
    refine ⟨rfl, ?_⟩
    refine no_implicit_lambda% (Fn.mono (fn_clerk_done hA.ck) (fun q s' ⟨e1, e2⟩ => ?_) fun _ _ _ h => False.elim h)
    subst e1 e2
    walk_at "fss"
    refine x_meth hA.ck.ob rfl ?_
    walk_at "fss"
    refine ⟨rfl, ?_⟩
    refine no_implicit_lambda% (Fn.mono (fn_clerk_weaving hA.ck) (fun q s ⟨e1, e2⟩ => ?_) fun _ _ _ h => False.elim h)
    subst e1 e2
    walk_at "fss"
    refine ⟨iL f, f, (by unfold res; simp only [hA.fd]), intsOf_map _, ?_⟩
    rw [hsrt]
    walk_at "fss"
    exact ⟨rfl, hA.old⟩
end
end
end I
end FS
set_option Elab.async false
set_option linter.all false
set_option pp.maxSteps 700
set_option maxRecDepth 100000
set_option maxHeartbeats 8000000
namespace FS
open PySem L2
namespace I
section
local macro_rules | `(tactic| walk_at "okm") => `(tactic| first | (exact okMul_l (by omega)) | (exact okMul_r (by omega)) | decide)
local macro_rules | `(tactic| walk_at "fsW") => `(tactic| first
  | (with_reducible refine wp_useL ?_)
  | (with_reducible refine wp_lenL ?_)
  | (with_reducible refine wp_ixL ?_)
  | (with_reducible refine wp_mthL ?_)
  | ((with_reducible refine wp_gtupC ?_ ?_); exact rfl)
  | ((with_reducible refine wp_gtupZ ?_ ?_); exact rfl))
local macro_rules | `(tactic| walk_at "fsE") => `(tactic| first
  | ((with_reducible show ∃ ys, _ = some (Slot.own ys) ∧ _); refine x_own1 rfl ?_)
  | ((with_reducible refine x_mul ?_ ?_); (walk_at "okm"))
  | ((with_reducible refine x_div ?_ ?_ ?_); omega; omega)
  | ((with_reducible refine x_mod ?_ ?_); omega)
  | ((with_reducible refine x_pow ?_ ?_); decide)
  | ((with_reducible show ∃ k, _ = some (PV.bl k) ∧ _); refine x_chain rfl ?_)
  | ((with_reducible show ∃ n ys, _ = PV.ref n ∧ _ = some (SO.lst ys) ∧ _); refine x_mR rfl rfl ?_)
  | ((with_reducible show ∃ w, pIx _ _ _ = some w ∧ _); refine x_ix rfl ?_)
  | ((with_reducible show ∃ w, fLen _ _ = some w ∧ _); refine x_len rfl ?_)
  | ((with_reducible show ∃ w, fInt _ _ = some w ∧ _); refine x_int rfl ?_)
  | ((with_reducible refine x_isi (w := .bl true) ?_ ?_); exact rfl)
  | ((with_reducible refine x_isi (w := .bl false) ?_ ?_); exact rfl)
  | ((with_reducible show ∃ w, fTuple _ _ = some w ∧ _); refine x_tupf rfl ?_)
  | ((with_reducible show ∃ w, fMin _ _ = some w ∧ _); refine x_minf rfl ?_)
  | ((with_reducible show ∃ w, fMax _ _ = some w ∧ _); refine x_maxf rfl ?_)
  | ((with_reducible show ∃ w, pCut _ _ _ _ = some w ∧ _); refine x_pcut rfl ?_)
  | ((with_reducible show ∃ w, itemsOf _ _ = some w ∧ _); refine x_itm rfl ?_)
  | ((with_reducible show ∃ w, itemsF _ = some w ∧ _); refine x_itF rfl ?_)
  | ((with_reducible show ∃ i, _ = PV.int i ∧ _); refine x_part rfl ?_)
  | ((with_reducible show ∃ p q, _ = [p, q] ∧ _); refine x_par rfl ?_)
  | ((with_reducible show ∃ n xs j m, _ = PV.ref n ∧ _ = PV.int j ∧ _ ∧ _ ∧ _); refine x_setR rfl rfl rfl rfl ?_))
local macro_rules | `(tactic| walk_at "fsR") => `(tactic| first
  | ((with_reducible show Wp _ _ _); (walk_at "fsW"))
  | ((with_reducible show Exists _); (walk_at "fsE"))
  | ((with_reducible show LkS _ _ _); first | refine lks_v rfl ?_ | refine lks_o rfl ?_)
  | ((with_reducible show _ ≤ sizeLine ∧ _); refine x_low rfl ?_)
  | ((with_reducible show List.length _ = _ ∧ _); refine x_num rfl ?_))
local macro_rules | `(tactic| walk_at "fs1") => `(tactic| first | (with_reducible refine run1 ?_) | (walk_at "fsR"))
local macro_rules | `(tactic| walk_at "fs0") => `(tactic| first | (with_reducible refine stp1 ?_) | (walk_at "fsR"))
local macro_rules | `(tactic| walk_at "fs") => `(tactic| repeat (walk_at "fs1"))
local macro_rules | `(tactic| walk_at "fsp") => `(tactic| (with_reducible refine x_spl ?_ ?_) <;> (intro h; first | (simp only [Bool.not_true, Bool.not_false, reduceCtorEq, decide_eq_true_eq, decide_eq_false_iff_not, Bool.not_eq_true', Bool.not_eq_false', Bool.and_eq_true, Int.not_lt, Int.not_le, Bool.or_eq_true, Bool.and_eq_false_iff, Bool.or_eq_false_iff, Bool.false_and, Bool.true_and, Bool.or_false, Bool.false_or, beq_self_eq_true, Bool.true_or, List.isEmpty_nil, List.isEmpty_cons] at h) | skip))
local macro_rules | `(tactic| walk_at "fss") => `(tactic| repeat' (first | (walk_at "fs1") | (walk_at "fsp")))
local macro_rules | `(tactic| walk_at "fd1") => `(tactic| first
  | ((with_reducible apply go_draw); assumption; (first | omega | decide); (first | omega | decide); intro s' v hp hv0 hv1)
  | (walk_at "fs1") | (walk_at "fsp"))
local macro_rules | `(tactic| walk_at "fdi1") => `(tactic| first
  | ((with_reducible apply go_draw); assumption; (first | omega | decide); (first | omega | decide); intro s' v hp hv0 hv1)
  | (walk_at "fs0") | (walk_at "fsp"))
local macro_rules | `(tactic| walk_at "fd") => `(tactic| repeat' (walk_at "fd1"))
local macro_rules | `(tactic| walk_at "fdi") => `(tactic| repeat' ((fail_if_success (with_reducible show Wp (dSeq (dIf _ _ _) _ _ _) _ _)); (walk_at "fdi1")))
theorem tot_le {c : Nat} : ∀ {w : Wv}, (∀ t ∈ w, t.length ≤ c) → tot w ≤ w.length * c
  | [], _ => Nat.zero_le _
  | y :: w, h => by
    have ih := tot_le (w := w) fun t ht => h t (List.mem_cons_of_mem _ ht)
    have h0 := h y (List.mem_cons_self ..)
    show y.length + tot w ≤ (w.length + 1) * c
    rw [Nat.succ_mul]
    omega
theorem snL_few {w : Wv} {bk : List (List Ft)} {k : Int} (h3 : ∀ x ∈ w.flatten, (0 : Int) ≤ x ∧ x < (2 : Nat)) : (srtI w.flatten).length ≤ 3 ∧ (snL w bk k).length + (unL w bk k).length ≤ 3 := by
  have : (srtI w.flatten).length ≤ 2 := srtI_few (n := 2) fun t ht x hx => h3 x (List.mem_flatten.mpr ⟨t, ht, hx⟩)
  exact ⟨by omega, by rw [keep_len]; omega⟩
local macro_rules | `(tactic| walk_at "fdx") => `(tactic| repeat' ((fail_if_success (with_reducible show Wp (dIfE _ _ _ _ _) _ _)); (fail_if_success (with_reducible show Wp (dSeq (dIf _ _ _) _ _ _) _ _)); (walk_at "fdi1")))
theorem law_true (ns : List Int) (hns : ns.length ≤ 63) : ∃ S, den_law [.scr ns] [] = .ok (.bl true) S := by
  suffices h : Fn (den_law [.scr ns] []) (fun q _ => q = .bl true) noR by
    obtain ⟨p, s, e, h⟩ := h.ok
    exact ⟨s, by rw [e, h]⟩
  unfold den_law
  with_reducible refine fn_run ?_ ?_
  exact rfl
  unfold body_law
  walk_at "fdi"
  refine no_implicit_lambda% (Fn.mono (fn_pool ns) (fun q S ⟨e1, hS⟩ => ?_) fun _ _ _ h => h.elim)
  subst e1
  walk_at "fdi"
  refine no_implicit_lambda% (Fn.mono (show Fn (den__law_ground [.ref 1, .int 3, .int 4] S) _ _ from fn_law_ground S hS 3 4 (by decide) (by decide) (by decide) (by decide)) (fun q s ⟨hP, p, k, xs, e1, hg, _, _, _⟩ => ?_) fun _ _ _ h => h.elim)
  subst e1
  have hn1 := hg.n1
  have hn2 := hg.n2
  have hk1 := hg.k1
  have hk2 := hg.k2
  have lx := ints_len xs
  walk_at "fdi"
  rw [lx]
  refine no_implicit_lambda% (Fn.mono (fn_law_book s hP xs.length hn1 hn2) (fun q s ⟨hP, bk, e1, hb, hs8⟩ => ?_) fun _ _ _ h => h.elim)
  subst e1
  walk_at "fdi"
  refine ⟨rfl, ?_⟩
  refine no_implicit_lambda% (Fn.mono (fn_clerk hg hb s) (fun q s1 ⟨e1, a, c, e2, hC⟩ => ?_) fun _ _ _ h => h.elim)
  subst e1
  refine ⟨rfl, ?_⟩
  have hl2 : s.length = 2 := hP.len
  rw [hl2] at hC ⊢
  have hl4 : s1.length = 4 := by rw [e2, List.length_append, hl2]; rfl
  have hP1 : Pool (s1.drop 2) s1 := hP.ch (by rw [e2, List.getElem?_append_left (by omega)]) (by rw [e2, List.getElem?_append_left (by omega)])
  clear e2
  walk_at "fdi"
  with_reducible refine wp_comp ?_
  walk_at "fdi"
  refine x_rng1 (by omega) (by omega) ?_
  rw [Int.toNat_natCast]
  refine ⟨fun m acc e s => s = s1 ∧ acc = (List.replicate m ([] : List Int)).map tupI ∧ e = [.val (.scr ns), .val (.ref 1), .val (gv p k xs), .val (.int xs.length), .val (bkP bk), .none, .none, .none, .none, .none, .none, .none, .none], ⟨rfl, rfl, rfl⟩, fun m q acc e s hi ⟨e1, h1, e2⟩ => ?_, fun acc e s ⟨e1, h1, e2⟩ => ?_⟩
  · obtain ⟨hj, rfl⟩ := rng_get _ _ _ _ hi
    subst e1 e2 h1
    walk_at "fdi"
    refine ⟨by rw [List.length_map, List.length_replicate]; exact small_line (by omega), rfl, ?_, rfl⟩
    rw [List.replicate_succ', List.map_append]
    rfl
  subst e1 e2 h1
  rw [List.length_map, List.length_range]
  walk_at "fdi"
  rw [hl4]
  have hw0 : okW xs.length (List.replicate xs.length ([] : List Int)) := ⟨List.length_replicate, fun t ht => by
    rw [List.eq_of_mem_replicate ht]
    exact ⟨Nat.zero_le _, fun x hx => by cases hx⟩⟩
  have hf0 : (List.replicate xs.length ([] : List Int)).flatten = [] := List.eq_nil_iff_forall_not_mem.mpr fun x hx => by
    obtain ⟨t, ht, hx⟩ := List.mem_flatten.mp hx
    rw [List.eq_of_mem_replicate ht] at hx
    cases hx
  have hz0 : snL (List.replicate xs.length []) bk k = [] := by unfold snL; rw [hf0]; rfl
  have hz1 : unL (List.replicate xs.length []) bk k = [] := by unfold unL; rw [hf0]; rfl
  have hlo : ∀ {j : Nat} {x : SO}, j < 4 → (s ++ [x])[j]? = s[j]? := fun h => List.getElem?_append_left (by omega)
  have hSt : St17 ((s ++ [SO.lst ((List.replicate xs.length ([] : List Int)).map tupI)]).drop 2) (s ++ [SO.lst ((List.replicate xs.length ([] : List Int)).map tupI)]) (gv p k xs) (bkP bk) (List.replicate xs.length []) (snL (List.replicate xs.length []) bk k) (unL (List.replicate xs.length []) bk k) := by
    rw [hz0, hz1]
    refine ⟨hP1.ch (hlo (by decide)) (hlo (by decide)), hC.same (hlo (by decide)) (hlo (by decide)), ?_⟩
    rw [List.getElem?_append_right (by omega), hl4]
    rfl
  have hw3 : ∀ x ∈ (List.replicate xs.length ([] : List Int)).flatten, (0 : Int) ≤ x ∧ x < (2 : Nat) := fun x hx => by
    rw [hf0] at hx
    cases hx
  have hwm : ∀ t ∈ List.replicate xs.length ([] : List Int), t.length ≤ 0 := fun t ht => by
    rw [List.eq_of_mem_replicate ht]
    exact Nat.le_refl _
  clear hz0 hz1 hlo hf0 hC hP1 hP hS hl4 hl2
  generalize List.replicate xs.length ([] : List Int) = w at *
  generalize s ++ [SO.lst (w.map tupI)] = s0 at *
  generalize s0.drop 2 = rT at *
  have hP := hSt.1
  with_reducible refine wp_for ?_
  walk_at "fdi"
  rename_i s2 v hP2 v0 v1
  refine x_rng1 (by omega) (by omega) ?_
  have hSt := hSt.draw hP2
  refine ⟨fun m e s => ∃ (rT : Stt) (bk : List (List Ft)) (w : Wv) (x7 x8 x9 x10 x11 : Slot), St17 rT s (gv p k xs) (bkP bk) w (snL w bk k) (unL w bk k) ∧ okB xs.length bk ∧ bk.length ≤ 8 ∧ okW xs.length w ∧ (∀ x ∈ w.flatten, (0 : Int) ≤ x ∧ x < (2 : Nat)) ∧ (∀ t ∈ w, t.length ≤ m) ∧
    e = [.val (.scr ns), .val (.ref 1), .val (gv p k xs), .val (.int xs.length), .val (bkP bk), .val (.ref 2), .val (.ref 4), x7, x8, x9, x10, x11, .none], ⟨_, bk, w, _, _, _, _, _, hSt, hb, hs8, hw0, hw3, hwm, rfl⟩, fun m q e s hi ⟨rT, bk, w, x7, x8, x9, x10, x11, hSt, hb, hs8, hw, hw3, hwm, e2⟩ => ?_, fun e s ⟨rT, bk, w, x7, x8, x9, x10, x11, hSt, hb, hs8, hw, hw3, hwm, e2⟩ => ?_⟩
  · obtain ⟨hj, rfl⟩ := rng_get _ _ _ _ hi
    have hP := hSt.1
    subst e2
    walk_at "fdi"
    rename_i s3 way hP3 y0 y1 s4 sh hP4 h0 h1
    have hSt := hSt.draw hP4
    obtain ⟨sh, rfl⟩ : ∃ u : Nat, sh = u := ⟨sh.toNat, by omega⟩
    have hs : sh < xs.length := by omega
    have hfew := snL_few (bk := bk) (k := k) hw3
    have hwl := hw.1
    have hsl : sh < w.length := by omega
    with_reducible refine wp_seq ?_
    refine no_implicit_lambda% (Wp.mono' (fun f e s => f = .next ∧ ∃ (rT : Stt) (bk' : List (List Ft)) (w' : Wv), St17 rT s (gv p k xs) (bkP bk') w' (snL w' bk' k) (unL w' bk' k) ∧ okB xs.length bk' ∧ bk'.length ≤ 8 ∧ okW xs.length w' ∧ (∀ x ∈ w'.flatten, (0 : Int) ≤ x ∧ x < (2 : Nat)) ∧ (∀ t ∈ w', t.length ≤ m + 1) ∧
      e = [.val (.scr ns), .val (.ref 1), .val (gv p k xs), .val (.int xs.length), .val (bkP bk'), .val (.ref 2), .val (.ref 4), .val (.int sh), .val (.int m), .val (.int way), x10, x11, .none]) (fun _ _ _ _ => False) ?_ (fun f e s ⟨e1, rT, bk', w', hSt, hb', hs8', hw', hw3', hwm', e2⟩ => ?_) (fun _ _ _ _ h => False.elim h))
    · have hP := hSt.1
      walk_at "fdx"
      · refine no_implicit_lambda% (Fn.mono (fn_law_book s4 hP xs.length hn1 hn2) (fun q s5 ⟨hP5, bk', e1, hb', hs8'⟩ => ?_) fun _ _ _ h => False.elim h)
        subst e1
        have hSt5 := hSt.draw hP5
        walk_at "fdx"
        refine x_meth hSt5.2.1.ob rfl ?_
        walk_at "fdx"
        refine ⟨rfl, ?_⟩
        refine no_implicit_lambda% (Fn.mono (fn_clerk_change hg hSt5.2.1 hw bk' hb' (by omega) (by omega)) (fun q s6 ⟨e1, O6, C6⟩ => ?_) fun _ _ _ h => False.elim h)
        subst e1
        walk_at "fdx"
        exact ⟨rfl, _, bk', w, St17.call hP5 O6 C6 hSt5.2.2, hb', hs8', hw, hw3, fun t ht => Nat.le_succ_of_le (hwm t ht), rfl⟩
      · refine x_setR rfl rfl hSt.2.2 (ixN_nat (by rw [List.length_map, hwl]; exact hs)) ?_
        rw [show (w.map tupI).set sh (.tup []) = (w.set sh []).map tupI by rw [List.map_set]; rfl]
        obtain ⟨hP5, hC5, h45⟩ := hSt.tape (w.set sh [])
        generalize s4.set 4 (.lst ((w.set sh []).map tupI)) = s5 at hP5 hC5 h45
        have hf3 : ∀ x ∈ (w.set sh []).flatten, (0 : Int) ≤ x ∧ x < (2 : Nat) := fun x hx => hw3 x (flat_lose hx)
        have hfew' := snL_few (bk := bk) (k := k) hf3
        walk_at "fdx"
        refine x_meth hC5.ob rfl ?_
        walk_at "fdx"
        refine ⟨rfl, ?_⟩
        refine no_implicit_lambda% (Fn.mono (fn_clerk_lost hg hb hC5 hw sh hs (by omega) (by omega)) (fun q s6 ⟨e1, O6, C6⟩ => ?_) fun _ _ _ h => False.elim h)
        subst e1
        walk_at "fdx"
        refine ⟨rfl, _, bk, w.set sh [], St17.call hP5 O6 C6 h45, hb, hs8, hw.lose sh, hf3, fun t ht => ?_, rfl⟩
        rcases List.mem_or_eq_of_mem_set ht with q | q
        · exact Nat.le_succ_of_le (hwm t q)
        · rw [q]
          exact Nat.zero_le _
      · have hat : atI (w.map tupI) (sh : Int) = some (tupI (w.getD sh [])) := atI_nat (by rw [List.getElem?_map, List.getElem?_eq_getElem hsl, List.getD_eq_getElem?_getD, List.getElem?_eq_getElem hsl]; rfl)
        have htl := hwm _ (getD_mem (d := []) hsl)
        refine x_ix (ixR hSt.2.2 hat) ?_
        walk_at "fdx"
        refine no_implicit_lambda% (Wp.mono' (fun q e s => s = s4 ∧ e = [.val (.scr ns), .val (.ref 1), .val (gv p k xs), .val (.int xs.length), .val (bkP bk), .val (.ref 2), .val (.ref 4), .val (.int sh), .val (.int m), .val (.int way), x10, x11, .none] ∧ ∃ c : Int, q = .int c ∧ 0 ≤ c ∧ c < 2) (fun _ _ _ _ => False) ?_ (fun q e s ⟨e1, e2, b, e3, b0, b1⟩ => ?_) (fun _ _ _ _ h => False.elim h))
        · walk_at "fd"
          · exact ⟨rfl, rfl, 0, rfl, by decide, by decide⟩
          · exact ⟨rfl, rfl, 1, rfl, by decide, by decide⟩
        subst e1 e2 e3
        walk_at "fdx"
        refine x_addT (xs := iL (w.getD sh [])) (ys := [.int b]) (small2 (by rw [ints_len]; show _ + 1 < _; omega)) ?_
        walk_at "fdx"
        refine x_setR rfl rfl hSt.2.2 (ixN_nat (by rw [List.length_map, hwl]; exact hs)) ?_
        rw [show (w.map tupI).set sh (.tup (iL (w.getD sh []) ++ [.int b])) = (w.set sh (w.getD sh [] ++ [b])).map tupI by
          rw [List.map_set]
          congr 1
          show PV.tup _ = PV.tup (iL _)
          rw [← iL_app]
          rfl]
        obtain ⟨hP6, hC6, h46⟩ := hSt.tape (w.set sh (w.getD sh [] ++ [b]))
        generalize s.set 4 (.lst ((w.set sh (w.getD sh [] ++ [b])).map tupI)) = s6 at hP6 hC6 h46
        have hm : ∀ x, enB w bk false x k = true → enB (w.set sh (w.getD sh [] ++ [b])) bk false x k = true := fun x hx => enB_put hx
        have hat2 : atI ((w.set sh (w.getD sh [] ++ [b])).map tupI) (sh : Int) = some (tupI (w.getD sh [] ++ [b])) := atI_nat (by rw [List.getElem?_map, List.getElem?_set, if_pos rfl, if_pos hsl]; rfl)
        walk_at "fdx"
        refine x_meth hC6.ob rfl ?_
        walk_at "fdx"
        refine x_ix (ixR h46 hat2) ?_
        walk_at "fdx"
        refine x_ix (w := .int b) (show atI (iL (w.getD sh [] ++ [b])) (-1) = some (.int b) by rw [← iL_app]; exact atI_last) ?_
        walk_at "fdx"
        refine ⟨rfl, ?_⟩
        refine no_implicit_lambda% (Fn.mono (fn_clerk_write hg hb hC6 hw (by omega) sh b hs b0 (by omega) (by omega)) (fun q s7 ⟨e1, O7, C7⟩ => ?_) fun _ _ _ h => False.elim h)
        rw [sn2_eq hb.1 hk1 hsl hm, un2_eq hb.1 hk1 hsl hm] at C7
        subst e1
        walk_at "fdx"
        refine ⟨rfl, _, bk, w.set sh (w.getD sh [] ++ [b]), St17.call hP6 O7 C7 h46, hb, hs8, hw.put (by omega) b0 (by omega), fun x hx => ?_, fun t ht => ?_, rfl⟩
        · rcases flat_put hx with q | q
          · exact hw3 x q
          · rw [q]
            omega
        · rcases List.mem_or_eq_of_mem_set ht with q | q
          · exact Nat.le_succ_of_le (hwm t q)
          · rw [q, List.length_append]
            show _ + 1 ≤ _
            omega
    · subst e1 e2
      have hfew' := snL_few (bk := bk') (k := k) hw3'
      have hs3 := safe3 (bk := bk') hb'.1 hk1 2 hw3'
      walk_at "fdi"
      with_reducible refine wp_comp ?_
      walk_at "fdi"
      refine x_rng1 (by decide) (by decide) ?_
      refine ⟨fun j acc e s' => s' = s ∧ acc = iL ((rgI j).filter fun x => enB w' bk' false x k) ∧ e = [.val (.scr ns), .val (.ref 1), .val (gv p k xs), .val (.int xs.length), .val (bkP bk'), .val (.ref 2), .val (.ref 4), .val (.int sh), .val (.int m), .val (.int way), x10, .none, .none], ⟨rfl, rfl, rfl⟩, fun j q acc e s' hi ⟨e1, h1, e2⟩ => ?_, fun acc e s' ⟨e1, h1, e2⟩ => ?_⟩
      · obtain ⟨hj, rfl⟩ := rng_get _ _ _ _ hi
        have hj : j < 2 := hj
        have hfl := List.length_filter_le (fun x => enB w' bk' false x k) (rgI j)
        rw [rgI_len] at hfl
        subst e1 e2 h1
        walk_at "fdi"
        refine x_tupf (tupR hSt.2.2) ?_
        walk_at "fdi"
        refine no_implicit_lambda% (Fn.mono (show Fn (den__law_sums [bkP bk', .bl false, .tup (w'.map tupI), .int j] s') _ _ from fn_law_sums s' xs.length bk' w' false j hn2 hw' hb') (fun q s ⟨e1, e2⟩ => ?_) fun _ _ _ h => False.elim h)
        subst e1 e2
        walk_at "fdi"
        refine no_implicit_lambda% (Fn.mono (fn_law_least s w' bk' false j hb'.1 hb'.2.1) (fun q s' ⟨e1, e2⟩ => ?_) fun _ _ _ h => False.elim h)
        subst e1 e2
        have hE : k ≤ lsV w' bk' false j ↔ enB w' bk' false j k = true := le_lsV hb'.1
        walk_at "fdi"
        · rename_i h
          refine ⟨by rw [ints_len]; exact small_line (by omega), rfl, ?_, rfl⟩
          rw [rgI_next, List.filter_append, List.filter_cons, if_pos (hE.mp h), ← iL_app]
          rfl
        · rename_i h
          refine ⟨rfl, ?_, rfl⟩
          rw [rgI_next, List.filter_append, List.filter_cons, if_neg (fun q => by have := hE.mpr q; omega)]
          rw [List.filter_nil, List.append_nil]
      subst e1 e2 h1
      rw [show (List.map (fun (k : Nat) => PV.int k) (List.range (Int.toNat 2))).length = 2 from rfl, hs3]
      walk_at "fdi"
      refine x_meth hSt.2.1.ob rfl ?_
      walk_at "fdi"
      refine ⟨rfl, ?_⟩
      refine no_implicit_lambda% (Fn.mono (fn_clerk_done hSt.2.1) (fun q s ⟨e1, e2⟩ => ?_) fun _ _ _ h => False.elim h)
      subst e1 e2
      walk_at "fdi"
      refine x_neI ?_
      walk_at "fdi"
      refine x_meth hSt.2.1.ob rfl ?_
      walk_at "fdi"
      refine ⟨rfl, ?_⟩
      refine no_implicit_lambda% (Fn.mono (fn_clerk_weaving hSt.2.1) (fun q s' ⟨e1, e2⟩ => ?_) fun _ _ _ h => False.elim h)
      subst e1 e2
      walk_at "fdi"
      refine no_implicit_lambda% (Fn.mono (fn_done hg hb' s' w' false hw' (by omega)) (fun q s ⟨e1, e2⟩ => ?_) fun _ _ _ h => False.elim h)
      rw [show dnL w' bk' false k = snL w' bk' k from rfl] at e2
      subst e1 e2
      walk_at "fdi"
      refine x_neI ?_
      walk_at "fdi"
      exact ⟨_, bk', w', _, _, _, _, _, hSt, hb', hs8', hw', hw3', hwm', rfl⟩
  · subst e2
    have hP := hSt.1
    have hC := hSt.2.1
    have h4 := hSt.2.2
    have htw : tot w ≤ 100 := by
      have h1 := tot_le hwm
      rw [List.length_map, List.length_range, hw.1] at h1
      have h2 : xs.length * (3 + v).toNat ≤ 8 * 12 := Nat.mul_le_mul (by omega) (by omega)
      omega
    walk_at "fdi"
    refine no_implicit_lambda% (Fn.mono (fn_anew hg hb s rT hP w hw 4 h4 (by decide) (fun x hx => by have := hw3 x hx; omega) htw) (fun q s' ⟨e1, ho⟩ => ?_) fun _ _ _ h => False.elim h)
    subst e1
    have hl4 := (List.getElem?_eq_some_iff.mp h4).1
    have hC' := hC.same (ho 2 (by decide) (by omega)) (ho 3 (by decide) (by omega))
    have h4' := (ho 4 (by decide) hl4).trans h4
    walk_at "fdi"
    refine x_meth hC'.ob rfl ?_
    walk_at "fdi"
    refine ⟨rfl, ?_⟩
    refine no_implicit_lambda% (Fn.mono (fn_clerk_done hC') (fun q s ⟨e1, e2⟩ => ?_) fun _ _ _ h => False.elim h)
    subst e1 e2
    walk_at "fdi"
    refine x_meth hC'.ob rfl ?_
    walk_at "fdi"
    refine ⟨rfl, ?_⟩
    refine no_implicit_lambda% (Fn.mono (fn_clerk_weaving hC') (fun q s' ⟨e1, e2⟩ => ?_) fun _ _ _ h => False.elim h)
    subst e1 e2
    walk_at "fdi"
    refine x_meth hC'.ob rfl ?_
    walk_at "fdi"
    refine ⟨rfl, ?_⟩
    refine no_implicit_lambda% (Fn.mono (fn_clerk_done hC') (fun q s ⟨e1, e2⟩ => ?_) fun _ _ _ h => False.elim h)
    subst e1 e2
    walk_at "fdi"
    refine x_eqS (okd_tup fun x hx => ?_) (thbs_of fun x hx => ?_) ?_
    · simp only [List.mem_cons, List.not_mem_nil, or_false] at hx
      rcases hx with rfl | rfl | rfl
      · exact okd_intsT 58 _
      · exact okd_tup (k := 58) fun x hx => by
          obtain ⟨t, _, rfl⟩ := List.mem_map.mp hx
          exact okd_intsT 57 _
      · exact okd_intsT 58 _
    · simp only [List.mem_cons, List.not_mem_nil, or_false] at hx
      rcases hx with rfl | rfl | rfl
      · exact ints_thb _
      · exact tapes_thb w
      · exact ints_thb _
    walk_at "fdi"
    refine x_meth hC'.ob rfl ?_
    walk_at "fdi"
    refine ⟨rfl, ?_⟩
    refine no_implicit_lambda% (Fn.mono (fn_clerk_weaving hC') (fun q s' ⟨e1, e2⟩ => ?_) fun _ _ _ h => False.elim h)
    subst e1 e2
    walk_at "fdi"
    refine x_tupf (tupR h4') ?_
    refine x_eqW ?_
    exact rfl
end
end I
end FS
namespace FS
theorem law_true : ∀ ns : List Int, ns.length ≤ 63 → ∃ S, den_law [.scr ns] [] = .ok (.bl true) S := I.law_true
end FS
set_option Elab.async false
set_option linter.all false
set_option maxRecDepth 100000
/-! K54Walk: the walk of law_k54_clerk_beside_another (printed by our gen.py) -/
namespace FS
open PySem PySem.Spec L2
def topS (i : Nat) : Stmt := PySem.Challenge.pw_firstsafe_k54_clerk_beside_another.main.body.getD i (.Pass ⟨0, 0, 0, 0⟩)
/-! ### what the names of the module hold -/
structure Tx (K : PySem.W.Frag) (mg : Str → Option Value) : Prop where
  b_bool : mg "bool" = none
  b_enumerate : mg "enumerate" = none
  b_int : mg "int" = none
  b_isinstance : mg "isinstance" = none
  b_len : mg "len" = none
  b_list : mg "list" = none
  b_max : mg "max" = none
  b_min : mg "min" = none
  b_range : mg "range" = none
  b_sorted : mg "sorted" = none
  b_sum : mg "sum" = none
  b_tuple : mg "tuple" = none
  c_MOST_BATCHES_safety : ∃ t, mg "MOST_BATCHES_safety" = some (.int 64 t)
  c_MOST_BATCHES_tapes : ∃ t, mg "MOST_BATCHES_tapes" = some (.int 64 t)
  c_MOST_CELLS_moments : ∃ t, mg "MOST_CELLS_moments" = some (.int 1024 t)
  c_MOST_CELLS_tapes : ∃ t, mg "MOST_CELLS_tapes" = some (.int 1024 t)
  c_MOST_FATE : ∃ t, mg "MOST_FATE" = some (.int 64 t)
  c_MOST_NUMBERS : ∃ t, mg "MOST_NUMBERS" = some (.int 12 t)
  c_MOST_PRIME : ∃ t, mg "MOST_PRIME" = some (.int 65521 t)
  c_MOST_ROWS : ∃ t, mg "MOST_ROWS" = some (.int 24 t)
  c_MOST_SHELVES_books : ∃ t, mg "MOST_SHELVES_books" = some (.int 8 t)
  c_MOST_SHELVES_grounds : ∃ t, mg "MOST_SHELVES_grounds" = some (.int 8 t)
section
variable {P : Program} {w : World} {K : PySem.W.Frag} {mg : Str → Option Value} {base : Heap} {TT : List (Addr × Str)}
theorem sc__law_pool : FnScope ["_law_script", "_law_first", "_law_size"] ["_law_script"] (defScope (topS 55)) := ⟨rfl, rfl, rfl, by decide +kernel, rfl, by decide +kernel, by decide +kernel⟩
theorem ok__law_pool {f : Addr} {fd : FuncData} (F : Fun K "_law_pool" "_law_pool" (topS 55) f fd) (T : Tx K mg) : FnOk P w K mg base (L2.CX P w) 1 f fd ["_law_script"] (spD K mg 1 den__law_pool) := by
  unfold den__law_pool body__law_pool
  exact def_ok F sc__law_pool fun cdv A outer s H E G hr => mss_cons (ms_set 1 sc__law_pool.nd (me_if (mt_cmp op_pGt (me_blt c_len T.b_len (ma_cons (me_use 0) (ma_nil))) (me_int) (nomark _)) (me_bty c_int T.b_int (ma_cons (me_ix (me_use 0) (me_int)) (ma_nil))) (me_int))) (mss_cons (ms_set 2 sc__law_pool.nd (me_if (mt_cmp op_pGe (me_use 1) (me_int) (nomark _)) (me_op op_pMul (me_int) (me_use 1)) (me_op op_pSub (me_neg (me_int)) (me_op op_pMul (me_int) (me_use 1))))) (mss_one (ms_ret (me_new (mf_disp (ma_cons (me_if (mt_cmp op_pGe (me_use 2) (me_op op_pPow (me_int) (me_int)) (nomark _)) (me_use 2) (me_int)) (ma_cons (me_op op_pAdd (me_op op_pMod (me_bty c_int T.b_int (ma_cons (me_op op_pAdd (me_op op_pMul (me_use 2) (me_int)) (me_int)) (ma_nil))) (me_int)) (me_int)) (ma_cons (me_new (mf_list (me_cut (me_use 0) (mo_some (me_int)) (mo_none)) T.b_list)) (ma_nil)))))))))
theorem sc__law_draw : FnScope ["_law_pool_here", "_law_many", "_law_first", "_law_size", "_law_found"] ["_law_pool_here", "_law_many"] (defScope (topS 56)) := ⟨rfl, rfl, rfl, by decide +kernel, rfl, by decide +kernel, by decide +kernel⟩
theorem ok__law_draw {f : Addr} {fd : FuncData} (F : Fun K "_law_draw" "_law_draw" (topS 56) f fd) (T : Tx K mg) : FnOk P w K mg base (L2.CX P w) 1 f fd ["_law_pool_here", "_law_many"] (spD K mg 2 den__law_draw) := by
  unfold den__law_draw body__law_draw
  exact def_ok F sc__law_draw fun cdv A outer s H E G hr => mss_cons (ms_if (mt_w (mw_and (mt_cmp (op_pEq hr) (me_ix (me_use 0) (me_int)) (me_int) (nomark _)) (mw_and1 (mt_cmp (op_pNe hr) (me_ix (me_use 0) (me_int)) (me_frz (mf_disp (ma_nil))) (nomark _))))) (mss_cons (ms_set 2 sc__law_draw.nd (me_bty c_int T.b_int (ma_cons (me_mthR (slot := PySem.F.slot_list_pop) m_popAt PySem.F.type_list_pop (me_ix (me_use 0) (me_int)) (ma_cons (me_int) (ma_nil))) (ma_nil)))) (mss_cons (ms_set 3 sc__law_draw.nd (me_if (mt_cmp op_pGe (me_use 2) (me_int) (nomark _)) (me_op op_pMul (me_int) (me_use 2)) (me_op op_pSub (me_neg (me_int)) (me_op op_pMul (me_int) (me_use 2))))) (mss_cons (ms_setR (me_if (mt_cmp op_pGe (me_use 3) (me_op op_pPow (me_int) (me_int)) (nomark _)) (me_use 3) (me_int)) (me_use 0) (me_int)) (mss_one (ms_setR (me_op op_pAdd (me_op op_pMod (me_bty c_int T.b_int (ma_cons (me_op op_pAdd (me_ix (me_use 0) (me_int)) (me_op op_pMul (me_use 3) (me_int))) (ma_nil))) (me_int)) (me_int)) (me_use 0) (me_int)))))) (mss_nil)) (mss_cons (ms_if (mt_cmp op_pGt (me_ix (me_use 0) (me_int)) (me_int) (nomark _)) (mss_cons (ms_set 4 sc__law_draw.nd (me_op op_pMod (me_bty c_int T.b_int (ma_cons (me_ix (me_use 0) (me_int)) (ma_nil))) (me_use 1))) (mss_cons (ms_setR (me_op op_pDiv (me_ix (me_use 0) (me_int)) (me_use 1)) (me_use 0) (me_int)) (mss_one (ms_ret (me_use 4))))) (mss_nil)) (mss_cons (ms_setR (me_op op_pMod (me_bty c_int T.b_int (ma_cons (me_op op_pAdd (me_op op_pMul (me_ix (me_use 0) (me_int)) (me_int)) (me_int)) (ma_nil))) (me_int)) (me_use 0) (me_int)) (mss_one (ms_ret (me_op op_pMod (me_op op_pDiv (me_op op_pMod (me_bty c_int T.b_int (ma_cons (me_op op_pMul (me_ix (me_use 0) (me_int)) (me_ix (me_use 0) (me_int))) (ma_nil))) (me_int)) (me_int)) (me_use 1))))))
theorem sc__law_pick : FnScope ["_law_pool_here", "_law_things"] ["_law_pool_here", "_law_things"] (defScope (topS 57)) := ⟨rfl, rfl, rfl, by decide +kernel, rfl, by decide +kernel, by decide +kernel⟩
theorem ok__law_pick {f : Addr} {fd : FuncData} (F : Fun K "_law_pick" "_law_pick" (topS 57) f fd) (T : Tx K mg) (D__law_draw : Df P w K mg base 1 "_law_draw" 2 den__law_draw) : FnOk P w K mg base (L2.CX P w) 2 f fd ["_law_pool_here", "_law_things"] (spD K mg 2 den__law_pick) := by
  unfold den__law_pick body__law_pick
  exact def_ok F sc__law_pick fun cdv A outer s H E G hr => mss_one (ms_ret (me_ix (me_use 1) (me_call D__law_draw hr (takes_of (E := E) rfl rfl rfl rfl) (ma_cons (me_use 0) (ma_cons (me_blt c_len T.b_len (ma_cons (me_use 1) (ma_nil))) (ma_nil))))))
theorem sc__law_turned : FnScope ["_law_pool_here", "_law_many", "_law_left", "_law_found", "_law_turn"] ["_law_pool_here", "_law_many"] (defScope (topS 58)) := ⟨rfl, rfl, rfl, by decide +kernel, rfl, by decide +kernel, by decide +kernel⟩
theorem ok__law_turned {f : Addr} {fd : FuncData} (F : Fun K "_law_turned" "_law_turned" (topS 58) f fd) (T : Tx K mg) (D__law_draw : Df P w K mg base 1 "_law_draw" 2 den__law_draw) : FnOk P w K mg base (L2.CX P w) 2 f fd ["_law_pool_here", "_law_many"] (spD K mg 2 den__law_turned) := by
  unfold den__law_turned body__law_turned
  exact def_ok F sc__law_turned fun cdv A outer s H E G hr => mss_cons (ms_ownNil 2 3 sc__law_turned.nd (mf_listRg1 (me_use 1) T.b_list T.b_range)) (mss_cons (ms_for (passes_of rfl) (mi_range1 T.b_range (ma_cons (me_use 1) (ma_nil))) (mg_name 4 sc__law_turned.nd) (mss_one (ms_expr (me_mthO (slot := PySem.F.slot_list_append) 3 m_append PySem.F.type_list_append (ma_cons (me_mthO (slot := PySem.F.slot_list_pop) 2 m_popAt PySem.F.type_list_pop (ma_cons (me_call D__law_draw hr (takes_of (E := E) rfl rfl rfl rfl) (ma_cons (me_use 0) (ma_cons (me_lenO 2 T.b_len) (ma_nil)))) (ma_nil))) (ma_nil)))))) (mss_one (ms_ret (me_use 3))))
theorem sc__law_ground : FnScope ["_law_pool_here", "_law_most", "_law_many", "_law_p", "_law_count", "_law_points", "_law_begin", "_law_gap", "_law_at"] ["_law_pool_here", "_law_most", "_law_many"] (defScope (topS 59)) := ⟨rfl, rfl, rfl, by decide +kernel, rfl, by decide +kernel, by decide +kernel⟩
theorem ok__law_ground {f : Addr} {fd : FuncData} (F : Fun K "_law_ground" "_law_ground" (topS 59) f fd) (T : Tx K mg) (D__law_pick : Df P w K mg base 2 "_law_pick" 2 den__law_pick) (D__law_draw : Df P w K mg base 1 "_law_draw" 2 den__law_draw) (D__law_turned : Df P w K mg base 2 "_law_turned" 2 den__law_turned) : FnOk P w K mg base (L2.CX P w) 3 f fd ["_law_pool_here", "_law_most", "_law_many"] (spD K mg 3 den__law_ground) := by
  unfold den__law_ground body__law_ground
  exact def_ok F sc__law_ground fun cdv A outer s H E G hr => mss_cons (ms_set 3 sc__law_ground.nd (me_call D__law_pick hr (takes_of (E := E) rfl rfl rfl rfl) (ma_cons (me_use 0) (ma_cons (me_frz (mf_disp (ma_cons (me_int) (ma_cons (me_int) (ma_cons (me_int) (ma_cons (me_int) (ma_cons (me_int) (ma_cons (me_int) (ma_cons (me_int) (ma_cons (me_int) (ma_cons (me_int) (ma_cons (me_int) (ma_cons (me_int) (ma_cons (me_int) (ma_nil))))))))))))))) (ma_nil))))) (mss_cons (ms_set 4 sc__law_ground.nd (me_op op_pAdd (me_int) (me_call D__law_draw hr (takes_of (E := E) rfl rfl rfl rfl) (ma_cons (me_use 0) (ma_cons (me_blt c_min T.b_min (ma_cons (me_use 2) (ma_cons (me_op op_pAdd (me_use 3) (me_int)) (ma_nil)))) (ma_nil)))))) (mss_cons (ms_if (mt_cmp op_pLt (me_use 3) (me_int) (nomark _)) (mss_one (ms_own 5 sc__law_ground.nd (mf_cutL (me_call D__law_turned hr (takes_of (E := E) rfl rfl rfl rfl) (ma_cons (me_use 0) (ma_cons (me_op op_pAdd (me_use 3) (me_int)) (ma_nil)))) (mo_none) (mo_some (me_use 4))))) (mss_cons (ms_asg (me_tup (ma_cons (me_call D__law_draw hr (takes_of (E := E) rfl rfl rfl rfl) (ma_cons (me_use 0) (ma_cons (me_op op_pAdd (me_use 3) (me_int)) (ma_nil)))) (ma_cons (me_op op_pAdd (me_int) (me_call D__law_draw hr (takes_of (E := E) rfl rfl rfl rfl) (ma_cons (me_use 0) (ma_cons (me_op op_pDiv (me_op op_pAdd (me_use 3) (me_int)) (me_int)) (ma_nil))))) (ma_nil)))) (mg_tup (mgs_cons (mg_name 6 sc__law_ground.nd) (mgs_cons (mg_name 7 sc__law_ground.nd) (mgs_nil))))) (mss_cons (ms_compO (N := ["_law_pool_here", "_law_most", "_law_many", "_law_p", "_law_count", "_law_points", "_law_begin", "_law_gap", "_law_at"]) (sc := defScope (topS 59)) 5 [("_law_at", 8)] sc__law_ground.nd (mi_range1 T.b_range (ma_cons (me_use 4) (ma_nil))) (by decide +kernel) (fun _ _ _ _ _ => mgc_name 8 sc__law_ground.nd) (fun _ _ _ _ _ => mts_nil) (fun _ _ _ _ _ _ => me_op op_pMod (me_bty c_int T.b_int (ma_cons (me_op op_pAdd (me_use 6) (me_op op_pMul (me_use 8) (me_use 7))) (ma_nil))) (me_op op_pAdd (me_use 3) (me_int)))) (mss_one (ms_if (mt_w (mw_and (mt_inO (neg := true) 5 hr (me_use 3)) (mw_and1 (mt_cmp (op_pEq hr) (me_call D__law_draw hr (takes_of (E := E) rfl rfl rfl rfl) (ma_cons (me_use 0) (ma_cons (me_int) (ma_nil)))) (me_int) (nomark _))))) (mss_one (ms_setO 5 (me_use 3) (me_call D__law_draw hr (takes_of (E := E) rfl rfl rfl rfl) (ma_cons (me_use 0) (ma_cons (me_use 4) (ma_nil)))))) (mss_nil)))))) (mss_one (ms_ret (me_tup (ma_cons (me_use 3) (ma_cons (me_op op_pAdd (me_int) (me_call D__law_draw hr (takes_of (E := E) rfl rfl rfl rfl) (ma_cons (me_use 0) (ma_cons (me_use 1) (ma_nil))))) (ma_cons (me_bty c_tuple T.b_tuple (ma_cons (me_use 5) (ma_nil))) (ma_nil)))))))))
theorem sc__law_bound : FnScope ["_law_pool_here"] ["_law_pool_here"] (defScope (topS 60)) := ⟨rfl, rfl, rfl, by decide +kernel, rfl, by decide +kernel, by decide +kernel⟩
theorem ok__law_bound {f : Addr} {fd : FuncData} (F : Fun K "_law_bound" "_law_bound" (topS 60) f fd) (T : Tx K mg) (D__law_pick : Df P w K mg base 2 "_law_pick" 2 den__law_pick) : FnOk P w K mg base (L2.CX P w) 3 f fd ["_law_pool_here"] (spD K mg 1 den__law_bound) := by
  unfold den__law_bound body__law_bound
  exact def_ok F sc__law_bound fun cdv A outer s H E G hr => mss_one (ms_ret (me_call D__law_pick hr (takes_of (E := E) rfl rfl rfl rfl) (ma_cons (me_use 0) (ma_cons (me_frz (mf_disp (ma_cons (me_int) (ma_cons (me_int) (ma_cons (me_int) (ma_cons (me_int) (ma_cons (me_int) (ma_cons (me_int) (ma_cons (me_int) (ma_cons (me_non) (ma_nil))))))))))) (ma_nil)))))
theorem sc__law_row : FnScope ["_law_pool_here", "_law_many", "_law_shelf", "_law_struck", "_law_turn"] ["_law_pool_here", "_law_many"] (defScope (topS 61)) := ⟨rfl, rfl, rfl, by decide +kernel, rfl, by decide +kernel, by decide +kernel⟩
theorem ok__law_row {f : Addr} {fd : FuncData} (F : Fun K "_law_row" "_law_row" (topS 61) f fd) (T : Tx K mg) (D__law_draw : Df P w K mg base 1 "_law_draw" 2 den__law_draw) (D__law_bound : Df P w K mg base 3 "_law_bound" 1 den__law_bound) : FnOk P w K mg base (L2.CX P w) 4 f fd ["_law_pool_here", "_law_many"] (spD K mg 2 den__law_row) := by
  unfold den__law_row body__law_row
  exact def_ok F sc__law_row fun cdv A outer s H E G hr => mss_cons (ms_if (mt_cmp (op_pEq hr) (me_call D__law_draw hr (takes_of (E := E) rfl rfl rfl rfl) (ma_cons (me_use 0) (ma_cons (me_int) (ma_nil)))) (me_int) (nomark _)) (mss_one (ms_ret (me_bty c_tuple T.b_tuple (ma_cons (me_frz (mf_comp (N := ["_law_pool_here", "_law_many", "_law_shelf", "_law_struck", "_law_turn"]) (sc := defScope (topS 61)) [("_law_shelf", 2)] sc__law_row.nd (mi_range1 T.b_range (ma_cons (me_use 1) (ma_nil))) (by decide +kernel) (fun _ _ _ _ _ => mgc_name 2 sc__law_row.nd) (fun _ _ _ _ _ => mts_nil) (fun _ _ _ _ _ _ => me_tup (ma_cons (me_call D__law_bound hr takes0 (ma_cons (me_use 0) (ma_nil))) (ma_cons (me_call D__law_bound hr takes0 (ma_cons (me_use 0) (ma_nil))) (ma_nil)))))) (ma_nil))))) (mss_nil)) (mss_cons (ms_set 3 sc__law_row.nd (me_frz (mf_comp (N := ["_law_pool_here", "_law_many", "_law_shelf", "_law_struck", "_law_turn"]) (sc := defScope (topS 61)) [("_law_turn", 4)] sc__law_row.nd (mi_range1 T.b_range (ma_cons (me_op op_pAdd (me_int) (me_call D__law_draw hr (takes_of (E := E) rfl rfl rfl rfl) (ma_cons (me_use 0) (ma_cons (me_int) (ma_nil))))) (ma_nil))) (by decide +kernel) (fun _ _ _ _ _ => mgc_name 4 sc__law_row.nd) (fun _ _ _ _ _ => mts_nil) (fun _ _ _ _ _ _ => me_call D__law_draw hr takes0 (ma_cons (me_use 0) (ma_cons (me_use 1) (ma_nil))))))) (mss_one (ms_ret (me_bty c_tuple T.b_tuple (ma_cons (me_frz (mf_comp (N := ["_law_pool_here", "_law_many", "_law_shelf", "_law_struck", "_law_turn"]) (sc := defScope (topS 61)) [("_law_shelf", 2)] sc__law_row.nd (mi_range1 T.b_range (ma_cons (me_use 1) (ma_nil))) (by decide +kernel) (fun _ _ _ _ _ => mgc_name 2 sc__law_row.nd) (fun _ _ _ _ _ => mts_nil) (fun _ _ _ _ _ _ => me_if (mt_cmp (op_pInA hr) (me_use 2) (me_use 3) (by with_unfolding_all rfl)) (me_tup (ma_cons (me_call D__law_bound hr takes0 (ma_cons (me_use 0) (ma_nil))) (ma_cons (me_call D__law_bound hr takes0 (ma_cons (me_use 0) (ma_nil))) (ma_nil)))) (me_tup (ma_cons (me_int) (ma_cons (me_int) (ma_nil))))))) (ma_nil))))))
theorem sc__law_book : FnScope ["_law_pool_here", "_law_many", "_law_way", "_law_fate", "_law_shelf", "_law_other", "_law_turn"] ["_law_pool_here", "_law_many"] (defScope (topS 62)) := ⟨rfl, rfl, rfl, by decide +kernel, rfl, by decide +kernel, by decide +kernel⟩
theorem ok__law_book {f : Addr} {fd : FuncData} (F : Fun K "_law_book" "_law_book" (topS 62) f fd) (T : Tx K mg) (D__law_draw : Df P w K mg base 1 "_law_draw" 2 den__law_draw) (D__law_row : Df P w K mg base 4 "_law_row" 2 den__law_row) : FnOk P w K mg base (L2.CX P w) 5 f fd ["_law_pool_here", "_law_many"] (spD K mg 2 den__law_book) := by
  unfold den__law_book body__law_book
  exact def_ok F sc__law_book fun cdv A outer s H E G hr => mss_cons (ms_set 2 sc__law_book.nd (me_call D__law_draw hr (takes_of (E := E) rfl rfl rfl rfl) (ma_cons (me_use 0) (ma_cons (me_int) (ma_nil))))) (mss_cons (ms_if (mt_cmp op_pLt (me_use 2) (me_int) (nomark _)) (mss_cons (ms_set 3 sc__law_book.nd (me_ix (me_frz (mf_disp (ma_cons (me_tup (ma_cons (me_non) (ma_cons (me_int) (ma_nil)))) (ma_cons (me_tup (ma_cons (me_int) (ma_cons (me_non) (ma_nil)))) (ma_nil))))) (me_use 2))) (mss_one (ms_ret (me_bty c_tuple T.b_tuple (ma_cons (me_frz (mf_comp (N := ["_law_pool_here", "_law_many", "_law_way", "_law_fate", "_law_shelf", "_law_other", "_law_turn"]) (sc := defScope (topS 62)) [("_law_other", 5)] sc__law_book.nd (mi_range1 T.b_range (ma_cons (me_use 1) (ma_nil))) (by decide +kernel) (fun _ _ _ _ _ => mgc_name 5 sc__law_book.nd) (fun _ _ _ _ _ => mts_nil) (fun _ _ _ _ _ _ => me_bty c_tuple T.b_tuple (ma_cons (me_frz (mf_comp (N := ["_law_pool_here", "_law_many", "_law_way", "_law_fate", "_law_shelf", "_law_other", "_law_turn"]) (sc := { kind := .function, names := [(".0", .local), ("_law_other", .cell), ("tuple", .globalImplicit), ("range", .globalImplicit), ("_law_fate", .cell), ("_law_many", .cell)], isGenerator := false, isCoroutine := false }) [("_law_shelf", 4)] sc__law_book.nd (mi_range1 T.b_range (ma_cons (me_use 1) (ma_nil))) (by decide +kernel) (fun _ _ _ _ _ => mgc_name 4 sc__law_book.nd) (fun _ _ _ _ _ => mts_nil) (fun _ _ _ _ _ _ => me_if (mt_cmp (op_pEq hr) (me_use 4) (me_use 5) (nomark _)) (me_use 3) (me_tup (ma_cons (me_int) (ma_cons (me_int) (ma_nil))))))) (ma_nil))))) (ma_nil)))))) (mss_nil)) (mss_one (ms_ret (me_bty c_tuple T.b_tuple (ma_cons (me_frz (mf_comp (N := ["_law_pool_here", "_law_many", "_law_way", "_law_fate", "_law_shelf", "_law_other", "_law_turn"]) (sc := defScope (topS 62)) [("_law_turn", 6)] sc__law_book.nd (mi_range1 T.b_range (ma_cons (me_op op_pAdd (me_int) (me_call D__law_draw hr (takes_of (E := E) rfl rfl rfl rfl) (ma_cons (me_use 0) (ma_cons (me_int) (ma_nil))))) (ma_nil))) (by decide +kernel) (fun _ _ _ _ _ => mgc_name 6 sc__law_book.nd) (fun _ _ _ _ _ => mts_nil) (fun _ _ _ _ _ _ => me_call D__law_row hr takes0 (ma_cons (me_use 0) (ma_cons (me_use 1) (ma_nil)))))) (ma_nil))))))
theorem sc_is_whole : FnScope ["thing", "low", "high"] ["thing", "low", "high"] (defScope (topS 13)) := ⟨rfl, rfl, rfl, by decide +kernel, rfl, by decide +kernel, by decide +kernel⟩
theorem ok_is_whole {f : Addr} {fd : FuncData} (F : Fun K "is_whole" "is_whole" (topS 13) f fd) (T : Tx K mg) : FnOk P w K mg base (L2.CX P w) 1 f fd ["thing", "low", "high"] (spD K mg 3 den_is_whole) := by
  unfold den_is_whole body_is_whole
  exact def_ok F sc_is_whole fun cdv A outer s H E G hr => mss_one (ms_ret (me_and (me_blt c_isi T.b_isinstance (ma_cons (me_use 0) (ma_cons (me_ty T.b_int (by decide +kernel)) (ma_nil)))) (me_and (me_not (me_blt c_isi T.b_isinstance (ma_cons (me_use 0) (ma_cons (me_ty T.b_bool (by decide +kernel)) (ma_nil))))) (me_one (me_chain op_pLe op_pLe (me_use 1) (me_use 0) (me_use 2))))))
theorem sc_is_prime : FnScope ["n", "divisor"] ["n"] (defScope (topS 14)) := ⟨rfl, rfl, rfl, by decide +kernel, rfl, by decide +kernel, by decide +kernel⟩
theorem ok_is_prime {f : Addr} {fd : FuncData} (F : Fun K "is_prime" "is_prime" (topS 14) f fd) (T : Tx K mg) (D_is_whole : Df P w K mg base 1 "is_whole" 3 den_is_whole) : FnOk P w K mg base (L2.CX P w) 2 f fd ["n"] (spD K mg 1 den_is_prime) := by
  obtain ⟨t_MOST_PRIME, c_MOST_PRIME⟩ := T.c_MOST_PRIME
  unfold den_is_prime body_is_prime
  exact def_ok F sc_is_prime fun cdv A outer s H E G hr => mss_cons (ms_if (mt_not (mt_tru (me_call D_is_whole hr (takes_of (E := E) rfl rfl rfl rfl) (ma_cons (me_use 0) (ma_cons (me_int) (ma_cons (me_gint c_MOST_PRIME) (ma_nil))))))) (mss_one (ms_ret (me_bl))) (mss_nil)) (mss_cons (ms_set 1 sc_is_prime.nd (me_int)) (mss_cons (ms_while (passes_of rfl) (mt_cmp op_pLe (me_op op_pMul (me_use 1) (me_use 1)) (me_use 0) (nomark _)) (mss_cons (ms_if (mt_cmp (op_pEq hr) (me_op op_pMod (me_use 0) (me_use 1)) (me_int) (nomark _)) (mss_one (ms_ret (me_bl))) (mss_nil)) (mss_one (ms_set 1 sc_is_prime.nd (me_op op_pAdd (me_use 1) (me_int)))))) (mss_one (ms_ret (me_bl)))))
theorem sc_are_points : FnScope ["p", "thing", "index"] ["p", "thing"] (defScope (topS 18)) := ⟨rfl, rfl, rfl, by decide +kernel, rfl, by decide +kernel, by decide +kernel⟩
theorem ok_are_points {f : Addr} {fd : FuncData} (F : Fun K "are_points" "are_points" (topS 18) f fd) (T : Tx K mg) (D_is_whole : Df P w K mg base 1 "is_whole" 3 den_is_whole) : FnOk P w K mg base (L2.CX P w) 2 f fd ["p", "thing"] (spD K mg 2 den_are_points) := by
  obtain ⟨t_MOST_SHELVES_grounds, c_MOST_SHELVES_grounds⟩ := T.c_MOST_SHELVES_grounds
  unfold den_are_points body_are_points
  exact def_ok F sc_are_points fun cdv A outer s H E G hr => mss_cons (ms_if (mt_w (mw_or (mt_not (mt_tru (me_blt c_isi T.b_isinstance (ma_cons (me_use 1) (ma_cons (me_ty T.b_tuple (by decide +kernel)) (ma_nil)))))) (mw_or1 (mt_not (mt_chain op_pLe op_pLe (me_int) (me_blt c_len T.b_len (ma_cons (me_use 1) (ma_nil))) (me_gint c_MOST_SHELVES_grounds)))))) (mss_one (ms_ret (me_bl))) (mss_nil)) (mss_cons (ms_for (passes_of rfl) (mi_range1 T.b_range (ma_cons (me_blt c_len T.b_len (ma_cons (me_use 1) (ma_nil))) (ma_nil))) (mg_name 2 sc_are_points.nd) (mss_one (ms_if (mt_w (mw_or (mt_not (mt_tru (me_call D_is_whole hr (takes_of (E := E) rfl rfl rfl rfl) (ma_cons (me_ix (me_use 1) (me_use 2)) (ma_cons (me_int) (ma_cons (me_use 0) (ma_nil))))))) (mw_or1 (mt_cmp (op_pInA hr) (me_ix (me_use 1) (me_use 2)) (me_cut (me_use 1) (mo_none) (mo_some (me_use 2))) (by with_unfolding_all rfl))))) (mss_one (ms_ret (me_bl))) (mss_nil)))) (mss_one (ms_ret (me_bl))))
theorem sc_made_ground : FnScope ["thing"] ["thing"] (defScope (topS 19)) := ⟨rfl, rfl, rfl, by decide +kernel, rfl, by decide +kernel, by decide +kernel⟩
theorem ok_made_ground {f : Addr} {fd : FuncData} (F : Fun K "made_ground" "made_ground" (topS 19) f fd) (T : Tx K mg) (D_is_prime : Df P w K mg base 2 "is_prime" 1 den_is_prime) (D_is_whole : Df P w K mg base 1 "is_whole" 3 den_is_whole) (D_are_points : Df P w K mg base 2 "are_points" 2 den_are_points) (E_BadGround : ErC P w K mg base "BadGround") : FnOk P w K mg base (L2.CX P w) 3 f fd ["thing"] (spD K mg 1 den_made_ground) := by
  obtain ⟨t_MOST_NUMBERS, c_MOST_NUMBERS⟩ := T.c_MOST_NUMBERS
  unfold den_made_ground body_made_ground
  exact def_ok F sc_made_ground fun cdv A outer s H E G hr => mss_cons (ms_if (mt_w (mw_or (mt_not (mt_tru (me_blt c_isi T.b_isinstance (ma_cons (me_use 0) (ma_cons (me_ty T.b_tuple (by decide +kernel)) (ma_nil)))))) (mw_or1 (mt_cmp (op_pNe hr) (me_blt c_len T.b_len (ma_cons (me_use 0) (ma_nil))) (me_int) (nomark _))))) (mss_one (ms_raise E_BadGround hr (takes_of (E := E) rfl rfl rfl rfl) (me_neg (me_int)))) (mss_nil)) (mss_cons (ms_if (mt_not (mt_tru (me_call D_is_prime hr (takes_of (E := E) rfl rfl rfl rfl) (ma_cons (me_ix (me_use 0) (me_int)) (ma_nil))))) (mss_one (ms_raise E_BadGround hr (takes_of (E := E) rfl rfl rfl rfl) (me_int))) (mss_nil)) (mss_cons (ms_if (mt_not (mt_tru (me_call D_is_whole hr (takes_of (E := E) rfl rfl rfl rfl) (ma_cons (me_ix (me_use 0) (me_int)) (ma_cons (me_int) (ma_cons (me_gint c_MOST_NUMBERS) (ma_nil))))))) (mss_one (ms_raise E_BadGround hr (takes_of (E := E) rfl rfl rfl rfl) (me_int))) (mss_nil)) (mss_cons (ms_if (mt_not (mt_tru (me_call D_are_points hr (takes_of (E := E) rfl rfl rfl rfl) (ma_cons (me_ix (me_use 0) (me_int)) (ma_cons (me_ix (me_use 0) (me_int)) (ma_nil)))))) (mss_one (ms_raise E_BadGround hr (takes_of (E := E) rfl rfl rfl rfl) (me_int))) (mss_nil)) (mss_one (ms_ret (me_use 0))))))
theorem sc_is_below : FnScope ["thing", "many"] ["thing", "many"] (defScope (topS 24)) := ⟨rfl, rfl, rfl, by decide +kernel, rfl, by decide +kernel, by decide +kernel⟩
theorem ok_is_below {f : Addr} {fd : FuncData} (F : Fun K "is_below" "is_below" (topS 24) f fd) (T : Tx K mg) : FnOk P w K mg base (L2.CX P w) 1 f fd ["thing", "many"] (spD K mg 2 den_is_below) := by
  unfold den_is_below body_is_below
  exact def_ok F sc_is_below fun cdv A outer s H E G hr => mss_one (ms_ret (me_and (me_blt c_isi T.b_isinstance (ma_cons (me_use 0) (ma_cons (me_ty T.b_int (by decide +kernel)) (ma_nil)))) (me_and (me_not (me_blt c_isi T.b_isinstance (ma_cons (me_use 0) (ma_cons (me_ty T.b_bool (by decide +kernel)) (ma_nil))))) (me_one (me_chain op_pLe op_pLt (me_int) (me_use 0) (me_use 1))))))
theorem sc_is_bound : FnScope ["thing"] ["thing"] (defScope (topS 31)) := ⟨rfl, rfl, rfl, by decide +kernel, rfl, by decide +kernel, by decide +kernel⟩
theorem ok_is_bound {f : Addr} {fd : FuncData} (F : Fun K "is_bound" "is_bound" (topS 31) f fd) (T : Tx K mg) (D_is_below : Df P w K mg base 1 "is_below" 2 den_is_below) : FnOk P w K mg base (L2.CX P w) 2 f fd ["thing"] (spD K mg 1 den_is_bound) := by
  obtain ⟨t_MOST_FATE, c_MOST_FATE⟩ := T.c_MOST_FATE
  unfold den_is_bound body_is_bound
  exact def_ok F sc_is_bound fun cdv A outer s H E G hr => mss_one (ms_ret (me_or (me_cmp op_pIs (me_use 0) (me_non) (nomark _)) (me_one (me_call D_is_below hr (takes_of (E := E) rfl rfl rfl rfl) (ma_cons (me_use 0) (ma_cons (me_op op_pAdd (me_gint c_MOST_FATE) (me_int)) (ma_nil)))))))
theorem sc_is_fate : FnScope ["thing"] ["thing"] (defScope (topS 32)) := ⟨rfl, rfl, rfl, by decide +kernel, rfl, by decide +kernel, by decide +kernel⟩
theorem ok_is_fate {f : Addr} {fd : FuncData} (F : Fun K "is_fate" "is_fate" (topS 32) f fd) (T : Tx K mg) (D_is_bound : Df P w K mg base 2 "is_bound" 1 den_is_bound) : FnOk P w K mg base (L2.CX P w) 3 f fd ["thing"] (spD K mg 1 den_is_fate) := by
  unfold den_is_fate body_is_fate
  exact def_ok F sc_is_fate fun cdv A outer s H E G hr => mss_one (ms_ret (me_and (me_blt c_isi T.b_isinstance (ma_cons (me_use 0) (ma_cons (me_ty T.b_tuple (by decide +kernel)) (ma_nil)))) (me_and (me_cmp (op_pEq hr) (me_blt c_len T.b_len (ma_cons (me_use 0) (ma_nil))) (me_int) (nomark _)) (me_and (me_call D_is_bound hr (takes_of (E := E) rfl rfl rfl rfl) (ma_cons (me_ix (me_use 0) (me_int)) (ma_nil))) (me_one (me_call D_is_bound hr (takes_of (E := E) rfl rfl rfl rfl) (ma_cons (me_ix (me_use 0) (me_int)) (ma_nil))))))))
theorem sc_is_row : FnScope ["many", "thing", "fate"] ["many", "thing"] (defScope (topS 33)) := ⟨rfl, rfl, rfl, by decide +kernel, rfl, by decide +kernel, by decide +kernel⟩
theorem ok_is_row {f : Addr} {fd : FuncData} (F : Fun K "is_row" "is_row" (topS 33) f fd) (T : Tx K mg) (D_is_fate : Df P w K mg base 3 "is_fate" 1 den_is_fate) : FnOk P w K mg base (L2.CX P w) 4 f fd ["many", "thing"] (spD K mg 2 den_is_row) := by
  unfold den_is_row body_is_row
  exact def_ok F sc_is_row fun cdv A outer s H E G hr => mss_cons (ms_if (mt_w (mw_or (mt_not (mt_tru (me_blt c_isi T.b_isinstance (ma_cons (me_use 1) (ma_cons (me_ty T.b_tuple (by decide +kernel)) (ma_nil)))))) (mw_or1 (mt_cmp (op_pNe hr) (me_blt c_len T.b_len (ma_cons (me_use 1) (ma_nil))) (me_use 0) (nomark _))))) (mss_one (ms_ret (me_bl))) (mss_nil)) (mss_cons (ms_for (passes_of rfl) (mi_val (me_use 1)) (mg_name 2 sc_is_row.nd) (mss_one (ms_if (mt_not (mt_tru (me_call D_is_fate hr (takes_of (E := E) rfl rfl rfl rfl) (ma_cons (me_use 2) (ma_nil))))) (mss_one (ms_ret (me_bl))) (mss_nil)))) (mss_one (ms_ret (me_bl))))
theorem sc_made_book : FnScope ["many", "thing", "index", "row"] ["many", "thing"] (defScope (topS 34)) := ⟨rfl, rfl, rfl, by decide +kernel, rfl, by decide +kernel, by decide +kernel⟩
theorem ok_made_book {f : Addr} {fd : FuncData} (F : Fun K "made_book" "made_book" (topS 34) f fd) (T : Tx K mg) (D_is_below : Df P w K mg base 1 "is_below" 2 den_is_below) (D_is_row : Df P w K mg base 4 "is_row" 2 den_is_row) (E_BadMany : ErC P w K mg base "BadMany") (E_BadBook : ErC P w K mg base "BadBook") (E_TooMany : ErC P w K mg base "TooMany") : FnOk P w K mg base (L2.CX P w) 5 f fd ["many", "thing"] (spD K mg 2 den_made_book) := by
  obtain ⟨t_MOST_ROWS, c_MOST_ROWS⟩ := T.c_MOST_ROWS
  obtain ⟨t_MOST_SHELVES_books, c_MOST_SHELVES_books⟩ := T.c_MOST_SHELVES_books
  unfold den_made_book body_made_book
  exact def_ok F sc_made_book fun cdv A outer s H E G hr => mss_cons (ms_if (mt_w (mw_or (mt_not (mt_tru (me_call D_is_below hr (takes_of (E := E) rfl rfl rfl rfl) (ma_cons (me_use 0) (ma_cons (me_op op_pAdd (me_gint c_MOST_SHELVES_books) (me_int)) (ma_nil)))))) (mw_or1 (mt_cmp (op_pEq hr) (me_use 0) (me_int) (nomark _))))) (mss_one (ms_raise E_BadMany hr (takes_of (E := E) rfl rfl rfl rfl) (me_use 0))) (mss_nil)) (mss_cons (ms_if (mt_w (mw_or (mt_not (mt_tru (me_blt c_isi T.b_isinstance (ma_cons (me_use 1) (ma_cons (me_ty T.b_tuple (by decide +kernel)) (ma_nil)))))) (mw_or1 (mt_cmp (op_pEq hr) (me_use 1) (me_tup (ma_nil)) (nomark _))))) (mss_one (ms_raise E_BadBook hr (takes_of (E := E) rfl rfl rfl rfl) (me_neg (me_int)))) (mss_nil)) (mss_cons (ms_if (mt_cmp op_pGt (me_blt c_len T.b_len (ma_cons (me_use 1) (ma_nil))) (me_gint c_MOST_ROWS) (nomark _)) (mss_one (ms_raise E_TooMany hr (takes_of (E := E) rfl rfl rfl rfl) (me_blt c_len T.b_len (ma_cons (me_use 1) (ma_nil))))) (mss_nil)) (mss_cons (ms_for (passes_of rfl) (mi_enum T.b_enumerate (ma_cons (me_use 1) (ma_nil))) (mg_tup (mgs_cons (mg_name 2 sc_made_book.nd) (mgs_cons (mg_name 3 sc_made_book.nd) (mgs_nil)))) (mss_one (ms_if (mt_not (mt_tru (me_call D_is_row hr (takes_of (E := E) rfl rfl rfl rfl) (ma_cons (me_use 0) (ma_cons (me_use 3) (ma_nil)))))) (mss_one (ms_raise E_BadBook hr (takes_of (E := E) rfl rfl rfl rfl) (me_use 2))) (mss_nil)))) (mss_one (ms_ret (me_use 1))))))
theorem sc_shelves : FnScope ["ground"] ["ground"] (defScope (topS 20)) := ⟨rfl, rfl, rfl, by decide +kernel, rfl, by decide +kernel, by decide +kernel⟩
theorem ok_shelves {f : Addr} {fd : FuncData} (F : Fun K "shelves" "shelves" (topS 20) f fd) (T : Tx K mg) (D_made_ground : Df P w K mg base 3 "made_ground" 1 den_made_ground) : FnOk P w K mg base (L2.CX P w) 4 f fd ["ground"] (spD K mg 1 den_shelves) := by
  unfold den_shelves body_shelves
  exact def_ok F sc_shelves fun cdv A outer s H E G hr => mss_one (ms_ret (me_blt c_len T.b_len (ma_cons (me_ix (me_call D_made_ground hr (takes_of (E := E) rfl rfl rfl rfl) (ma_cons (me_use 0) (ma_nil))) (me_int)) (ma_nil))))
theorem sc_Clerk____init__ : FnScope ["self", "ground", "book"] ["self", "ground", "book"] (defScope (inClass (topS 53) 0)) := ⟨rfl, rfl, rfl, by decide +kernel, rfl, by decide +kernel, by decide +kernel⟩
theorem ok_Clerk____init__ {f : Addr} {fd : FuncData} (F : Fun K "__init__" "Clerk.__init__" (inClass (topS 53) 0) f fd) (T : Tx K mg) (F_Clerk_ground : FldOk K "Clerk" "ground") (F_Clerk_book : FldOk K "Clerk" "book") (F_Clerk_tapes : FldOk K "Clerk" "tapes") (F_Clerk_safe_now : FldOk K "Clerk" "safe_now") (F_Clerk_unsafe : FldOk K "Clerk" "unsafe") (D_made_ground : Df P w K mg base 3 "made_ground" 1 den_made_ground) (D_made_book : Df P w K mg base 5 "made_book" 2 den_made_book) (D_shelves : Df P w K mg base 4 "shelves" 1 den_shelves) : FnOk P w K mg base (L2.CX P w) 6 f fd ["self", "ground", "book"] (spD K mg 3 den_Clerk____init__) := by
  unfold den_Clerk____init__ body_Clerk____init__
  exact def_ok F sc_Clerk____init__ fun cdv A outer s H E G hr => mss_cons (ms_expr (me_call D_made_ground hr (takes_of (E := E) rfl rfl rfl rfl) (ma_cons (me_use 1) (ma_nil)))) (mss_cons (ms_expr (me_call D_made_book hr (takes_of (E := E) rfl rfl rfl rfl) (ma_cons (me_call D_shelves hr (takes_of (E := E) rfl rfl rfl rfl) (ma_cons (me_use 1) (ma_nil))) (ma_cons (me_use 2) (ma_nil))))) (mss_cons (ms_fld F_Clerk_ground (me_use 0) (me_use 1)) (mss_cons (ms_fld F_Clerk_book (me_use 0) (me_use 2)) (mss_cons (ms_fld F_Clerk_tapes (me_use 0) (me_new (mf_mulL (me_frz (mf_disp (ma_cons (me_tup (ma_nil)) (ma_nil)))) (me_call D_shelves hr (takes_of (E := E) rfl rfl rfl rfl) (ma_cons (me_use 1) (ma_nil)))))) (mss_cons (ms_fld F_Clerk_safe_now (me_use 0) (me_frz (mf_disp (ma_nil)))) (mss_one (ms_fld F_Clerk_unsafe (me_use 0) (me_frz (mf_disp (ma_nil))))))))))
theorem sc_met : FnScope ["weaving", "tape", "b"] ["weaving"] (defScope (topS 47)) := ⟨rfl, rfl, rfl, by decide +kernel, rfl, by decide +kernel, by decide +kernel⟩
theorem ok_met {f : Addr} {fd : FuncData} (F : Fun K "met" "met" (topS 47) f fd) (T : Tx K mg) : FnOk P w K mg base (L2.CX P w) 1 f fd ["weaving"] (spD K mg 1 den_met) := by
  unfold den_met body_met
  exact def_ok F sc_met fun cdv A outer s H E G hr => mss_one (ms_ret (me_frz (mf_alt (mf_metR 1 2 [("tape", 1), ("b", 2)] T.b_sorted sc_met.nd (me_use 0) (N := ["weaving", "tape", "b"]) (sc := defScope (topS 47)) (by decide +kernel) (fun _ _ _ _ _ => ⟨pg_name sc_met.nd rfl (.inl rfl), pe_var rfl (.inl rfl), pg_name sc_met.nd rfl (.inl rfl), pe_var rfl (.inl rfl)⟩)) (mf_met 1 2 [("tape", 1), ("b", 2)] T.b_sorted sc_met.nd (me_use 0) (N := ["weaving", "tape", "b"]) (sc := defScope (topS 47)) (by decide +kernel) (fun _ _ _ _ _ => ⟨pg_name sc_met.nd rfl (.inl rfl), pe_var rfl (.inl rfl), pg_name sc_met.nd rfl (.inl rfl), pe_var rfl (.inl rfl)⟩)))))
theorem sc_without : FnScope ["length", "many"] ["length", "many"] (defScope (topS 42)) := ⟨rfl, rfl, rfl, by decide +kernel, rfl, by decide +kernel, by decide +kernel⟩
theorem ok_without {f : Addr} {fd : FuncData} (F : Fun K "without" "without" (topS 42) f fd) (T : Tx K mg) : FnOk P w K mg base (L2.CX P w) 1 f fd ["length", "many"] (spD K mg 2 den_without) := by
  unfold den_without body_without
  exact def_ok F sc_without fun cdv A outer s H E G hr => mss_one (ms_ret (me_if (mt_cmp op_pIs (me_use 1) (me_non) (nomark _)) (me_int) (me_blt c_max T.b_max (ma_cons (me_int) (ma_cons (me_op op_pSub (me_use 0) (me_use 1)) (ma_nil))))))
theorem sc_greater : FnScope ["one", "other"] ["one", "other"] (defScope (topS 40)) := ⟨rfl, rfl, rfl, by decide +kernel, rfl, by decide +kernel, by decide +kernel⟩
theorem ok_greater {f : Addr} {fd : FuncData} (F : Fun K "greater" "greater" (topS 40) f fd) (T : Tx K mg) : FnOk P w K mg base (L2.CX P w) 1 f fd ["one", "other"] (spD K mg 2 den_greater) := by
  unfold den_greater body_greater
  exact def_ok F sc_greater fun cdv A outer s H E G hr => mss_one (ms_ret (me_if (mt_w (mw_or (mt_cmp op_pIs (me_use 0) (me_non) (nomark _)) (mw_or1 (mt_cmp op_pIs (me_use 1) (me_non) (nomark _))))) (me_non) (me_blt c_max T.b_max (ma_cons (me_use 0) (ma_cons (me_use 1) (ma_nil))))))
theorem sc_lesser : FnScope ["one", "other"] ["one", "other"] (defScope (topS 39)) := ⟨rfl, rfl, rfl, by decide +kernel, rfl, by decide +kernel, by decide +kernel⟩
theorem ok_lesser {f : Addr} {fd : FuncData} (F : Fun K "lesser" "lesser" (topS 39) f fd) (T : Tx K mg) : FnOk P w K mg base (L2.CX P w) 1 f fd ["one", "other"] (spD K mg 2 den_lesser) := by
  unfold den_lesser body_lesser
  exact def_ok F sc_lesser fun cdv A outer s H E G hr => mss_cons (ms_if (mt_w (mw_or (mt_cmp op_pIs (me_use 0) (me_non) (nomark _)) (mw_or1 (mt_cmp op_pIs (me_use 1) (me_non) (nomark _))))) (mss_one (ms_ret (me_if (mt_cmp op_pIs (me_use 0) (me_non) (nomark _)) (me_use 1) (me_use 0)))) (mss_nil)) (mss_one (ms_ret (me_blt c_min T.b_min (ma_cons (me_use 0) (ma_cons (me_use 1) (ma_nil))))))
theorem sc_missing : FnScope ["fate", "other", "told"] ["fate", "other", "told"] (defScope (topS 41)) := ⟨rfl, rfl, rfl, by decide +kernel, rfl, by decide +kernel, by decide +kernel⟩
theorem ok_missing {f : Addr} {fd : FuncData} (F : Fun K "missing" "missing" (topS 41) f fd) (T : Tx K mg) (D_lesser : Df P w K mg base 1 "lesser" 2 den_lesser) : FnOk P w K mg base (L2.CX P w) 2 f fd ["fate", "other", "told"] (spD K mg 3 den_missing) := by
  unfold den_missing body_missing
  exact def_ok F sc_missing fun cdv A outer s H E G hr => mss_one (ms_ret (me_if (mt_tru (me_use 2)) (me_call D_lesser hr (takes_of (E := E) rfl rfl rfl rfl) (ma_cons (me_ix (me_use 0) (me_int)) (ma_cons (me_ix (me_use 1) (me_int)) (ma_nil)))) (me_ix (me_use 0) (me_int))))
theorem sc_head : FnScope ["length", "fate", "other", "told"] ["length", "fate", "other", "told"] (defScope (topS 43)) := ⟨rfl, rfl, rfl, by decide +kernel, rfl, by decide +kernel, by decide +kernel⟩
theorem ok_head {f : Addr} {fd : FuncData} (F : Fun K "head" "head" (topS 43) f fd) (T : Tx K mg) (D_without : Df P w K mg base 1 "without" 2 den_without) (D_greater : Df P w K mg base 1 "greater" 2 den_greater) (D_missing : Df P w K mg base 2 "missing" 3 den_missing) : FnOk P w K mg base (L2.CX P w) 3 f fd ["length", "fate", "other", "told"] (spD K mg 4 den_head) := by
  unfold den_head body_head
  exact def_ok F sc_head fun cdv A outer s H E G hr => mss_one (ms_ret (me_call D_without hr (takes_of (E := E) rfl rfl rfl rfl) (ma_cons (me_call D_without hr (takes_of (E := E) rfl rfl rfl rfl) (ma_cons (me_use 0) (ma_cons (me_call D_missing hr (takes_of (E := E) rfl rfl rfl rfl) (ma_cons (me_use 1) (ma_cons (me_use 2) (ma_cons (me_use 3) (ma_nil))))) (ma_nil)))) (ma_cons (me_call D_greater hr (takes_of (E := E) rfl rfl rfl rfl) (ma_cons (me_ix (me_use 1) (me_int)) (ma_cons (me_ix (me_use 2) (me_int)) (ma_nil)))) (ma_nil)))))
theorem sc_heads : FnScope ["lengths", "row", "other", "told", "at"] ["lengths", "row", "other", "told"] (defScope (topS 44)) := ⟨rfl, rfl, rfl, by decide +kernel, rfl, by decide +kernel, by decide +kernel⟩
theorem ok_heads {f : Addr} {fd : FuncData} (F : Fun K "heads" "heads" (topS 44) f fd) (T : Tx K mg) (D_head : Df P w K mg base 3 "head" 4 den_head) : FnOk P w K mg base (L2.CX P w) 4 f fd ["lengths", "row", "other", "told"] (spD K mg 4 den_heads) := by
  unfold den_heads body_heads
  exact def_ok F sc_heads fun cdv A outer s H E G hr => mss_one (ms_ret (me_frz (mf_comp (N := ["lengths", "row", "other", "told", "at"]) (sc := defScope (topS 44)) [("at", 4)] sc_heads.nd (mi_range1 T.b_range (ma_cons (me_blt c_len T.b_len (ma_cons (me_use 0) (ma_nil))) (ma_nil))) (by decide +kernel) (fun _ _ _ _ _ => mgc_name 4 sc_heads.nd) (fun _ _ _ _ _ => mts_nil) (fun _ _ _ _ _ _ => me_call D_head hr takes0 (ma_cons (me_ix (me_use 0) (me_use 4)) (ma_cons (me_ix (me_use 1) (me_use 4)) (ma_cons (me_ix (me_use 2) (me_use 4)) (ma_cons (me_use 3) (ma_nil)))))))))
theorem sc_unlike_heads : FnScope ["book", "told", "weaving", "lengths", "found", "tape", "row", "other", "certain"] ["book", "told", "weaving"] (defScope (topS 48)) := ⟨rfl, rfl, rfl, by decide +kernel, rfl, by decide +kernel, by decide +kernel⟩
theorem ok_unlike_heads {f : Addr} {fd : FuncData} (F : Fun K "unlike_heads" "unlike_heads" (topS 48) f fd) (T : Tx K mg) (D_heads : Df P w K mg base 4 "heads" 4 den_heads) : FnOk P w K mg base (L2.CX P w) 5 f fd ["book", "told", "weaving"] (spD K mg 3 den_unlike_heads) := by
  unfold den_unlike_heads body_unlike_heads
  exact def_ok F sc_unlike_heads fun cdv A outer s H E G hr => mss_cons (ms_setNil 3 4 sc_unlike_heads.nd (me_frz (mf_alt (mf_compR (N := ["book", "told", "weaving", "lengths", "found", "tape", "row", "other", "certain"]) (sc := defScope (topS 48)) (me_use 2) [("tape", 5)] sc_unlike_heads.nd (by decide +kernel) (fun _ _ _ _ _ => mgc_name 5 sc_unlike_heads.nd) (fun _ _ _ _ _ => mts_nil) (fun _ _ _ _ _ _ => me_blt c_len T.b_len (ma_cons (me_use 5) (ma_nil)))) (mf_comp (N := ["book", "told", "weaving", "lengths", "found", "tape", "row", "other", "certain"]) (sc := defScope (topS 48)) [("tape", 5)] sc_unlike_heads.nd (mi_val (me_use 2)) (by decide +kernel) (fun _ _ _ _ _ => mgc_name 5 sc_unlike_heads.nd) (fun _ _ _ _ _ => mts_nil) (fun _ _ _ _ _ _ => me_blt c_len T.b_len (ma_cons (me_use 5) (ma_nil))))))) (mss_cons (ms_for (passes_of rfl) (mi_val (me_use 0)) (mg_name 6 sc_unlike_heads.nd) (mss_one (ms_for (passes_of rfl) (mi_val (me_use 0)) (mg_name 7 sc_unlike_heads.nd) (mss_cons (ms_set 8 sc_unlike_heads.nd (me_call D_heads hr (takes_of (E := E) rfl rfl rfl rfl) (ma_cons (me_use 3) (ma_cons (me_use 6) (ma_cons (me_use 7) (ma_cons (me_use 1) (ma_nil))))))) (mss_one (ms_if (mt_inO (neg := true) 4 hr (me_use 8)) (mss_one (ms_expr (me_mthO (slot := PySem.F.slot_list_append) 4 m_append PySem.F.type_list_append (ma_cons (me_use 8) (ma_nil))))) (mss_nil))))))) (mss_one (ms_ret (me_use 4))))
theorem sc_counts_ahead : FnScope ["tape", "b", "found", "number"] ["tape", "b"] (defScope (topS 45)) := ⟨rfl, rfl, rfl, by decide +kernel, rfl, by decide +kernel, by decide +kernel⟩
theorem ok_counts_ahead {f : Addr} {fd : FuncData} (F : Fun K "counts_ahead" "counts_ahead" (topS 45) f fd) (T : Tx K mg) : FnOk P w K mg base (L2.CX P w) 1 f fd ["tape", "b"] (spD K mg 2 den_counts_ahead) := by
  unfold den_counts_ahead body_counts_ahead
  exact def_ok F sc_counts_ahead fun cdv A outer s H E G hr => mss_cons (ms_own 2 sc_counts_ahead.nd (mf_disp (ma_cons (me_int) (ma_nil)))) (mss_cons (ms_for (passes_of rfl) (mi_val (me_use 0)) (mg_name 3 sc_counts_ahead.nd) (mss_one (ms_expr (me_mthO (slot := PySem.F.slot_list_append) 2 m_append PySem.F.type_list_append (ma_cons (me_op op_pAdd (me_ixO 2 (me_neg (me_int))) (me_if (mt_cmp (op_pEq hr) (me_use 3) (me_use 1) (nomark _)) (me_int) (me_int))) (ma_nil)))))) (mss_one (ms_ret (me_use 2))))
theorem sc_safe_among : FnScope ["k", "book", "told", "weaving", "some", "certain", "found", "b", "counts", "tape", "entries", "row"] ["k", "book", "told", "weaving", "some"] (defScope (topS 49)) := ⟨rfl, rfl, rfl, by decide +kernel, rfl, by decide +kernel, by decide +kernel⟩
theorem ok_safe_among {f c : Addr} {oc kV doc pm ct : Value} {od an : Option Addr} {osl : Array (Option Value)} (l : K.lookup f = some ⟨oc, od, .func (PySem.W.fnOf "safe_among" "safe_among" (defArgs (topS 49)) (defBody (topS 49)) (defScope (topS 49)) .none kV doc pm an (.ref c) ct), osl⟩) (hc : PySem.W.codeIn K (.ref c) "safe_among" = true) (T : Tx K mg) {Pt : Addr} (TB : LamX.TabB base mg c Pt) (hmT : (Pt, ("safe_among" ++ (".<locals>." : Str) ++ ("<genexpr>" : Str))) ∈ TT) (huT : ∀ p ∈ TT, p.1 = Pt → p.2 = ("safe_among" ++ (".<locals>." : Str) ++ ("<genexpr>" : Str))) (D_unlike_heads : Df P w K mg base 5 "unlike_heads" 3 den_unlike_heads) (D_counts_ahead : Df P w K mg base 1 "counts_ahead" 2 den_counts_ahead) : FnOk P w K mg base (L2.CX P w) 6 f (PySem.W.fnOf "safe_among" "safe_among" (defArgs (topS 49)) (defBody (topS 49)) (defScope (topS 49)) .none kV doc pm an (.ref c) ct) ["k", "book", "told", "weaving", "some"] (spDT K mg TT 5 den_safe_among) := by
  unfold den_safe_among body_safe_among
  exact def_okT l hc sc_safe_among fun A outer s H E G hT hr => mss_cons (ms_setNil 5 6 sc_safe_among.nd (me_call D_unlike_heads hr (takes_of (E := E) rfl rfl rfl rfl) (ma_cons (me_use 1) (ma_cons (me_use 2) (ma_cons (me_use 3) (ma_nil)))))) (mss_cons (ms_for (passes_of rfl) (mi_val (me_use 4)) (mg_name 7 sc_safe_among.nd) (mss_cons (ms_set 8 sc_safe_among.nd (me_frz (mf_alt (mf_compR (N := ["k", "book", "told", "weaving", "some", "certain", "found", "b", "counts", "tape", "entries", "row"]) (sc := defScope (topS 49)) (me_use 3) [("tape", 9)] sc_safe_among.nd (by decide +kernel) (fun _ _ _ _ _ => mgc_name 9 sc_safe_among.nd) (fun _ _ _ _ _ => mts_nil) (fun _ _ _ _ _ _ => me_call D_counts_ahead hr takes0 (ma_cons (me_use 9) (ma_cons (me_use 7) (ma_nil))))) (mf_comp (N := ["k", "book", "told", "weaving", "some", "certain", "found", "b", "counts", "tape", "entries", "row"]) (sc := defScope (topS 49)) [("tape", 9)] sc_safe_among.nd (mi_val (me_use 3)) (by decide +kernel) (fun _ _ _ _ _ => mgc_name 9 sc_safe_among.nd) (fun _ _ _ _ _ => mts_nil) (fun _ _ _ _ _ _ => me_call D_counts_ahead hr takes0 (ma_cons (me_use 9) (ma_cons (me_use 7) (ma_nil)))))))) (mss_cons (ms_compT hT (N := ["k", "book", "told", "weaving", "some", "certain", "found", "b", "counts", "tape", "entries", "row"]) (sc := defScope (topS 49)) 10 [("row", 11)] sc_safe_among.nd (mi_val (me_use 5)) (by decide +kernel) (fun _ _ _ _ _ => mgc_name 11 sc_safe_among.nd) (fun _ _ _ _ _ => mts_nilT) (fun _ _ _ _ _ _ hT => me_sumG hT hmT huT TB hr T.b_sum (GS.mk (sc := { kind := .function, names := [(".0", .local), ("row", .cell), ("sum", .globalImplicit), ("range", .globalImplicit), ("len", .globalImplicit), ("counts", .cell)], isGenerator := false, isCoroutine := false }) rfl rfl (by decide +kernel) rfl rfl (by decide +kernel)) (mr_rng1 T.b_range (ma_cons (me_blt c_len T.b_len (ma_cons (me_use 11) (ma_nil))) (ma_nil))) (q_ix (q_ix (q_var 8) (q_item)) (q_ix (q_var 11) (q_item))))) (mss_one (ms_if (mt_cmp op_pGe (me_blt c_minL T.b_min (ma_cons (me_use 10) (ma_nil))) (me_use 0) (nomark _)) (mss_one (ms_expr (me_mthO (slot := PySem.F.slot_list_append) 6 m_append PySem.F.type_list_append (ma_cons (me_use 7) (ma_nil))))) (mss_nil)))))) (mss_one (ms_ret (me_use 6))))
theorem sc_Clerk__safe_of : FnScope ["self", "some"] ["self", "some"] (defScope (inClass (topS 53) 2)) := ⟨rfl, rfl, rfl, by decide +kernel, rfl, by decide +kernel, by decide +kernel⟩
theorem ok_Clerk__safe_of {f c : Addr} {oc kV doc pm ct : Value} {od an : Option Addr} {osl : Array (Option Value)} (l : K.lookup f = some ⟨oc, od, .func (PySem.W.fnOf "safe_of" "Clerk.safe_of" (defArgs (inClass (topS 53) 2)) (defBody (inClass (topS 53) 2)) (defScope (inClass (topS 53) 2)) .none kV doc pm an (.ref c) ct), osl⟩) (hc : PySem.W.codeIn K (.ref c) "Clerk.safe_of" = true) (T : Tx K mg) (F_Clerk_tapes : FldOk K "Clerk" "tapes") (F_Clerk_book : FldOk K "Clerk" "book") (F_Clerk_ground : FldOk K "Clerk" "ground") (D_safe_among : DfT P w K mg base TT 6 "safe_among" 5 den_safe_among) : FnOk P w K mg base (L2.CX P w) 7 f (PySem.W.fnOf "safe_of" "Clerk.safe_of" (defArgs (inClass (topS 53) 2)) (defBody (inClass (topS 53) 2)) (defScope (inClass (topS 53) 2)) .none kV doc pm an (.ref c) ct) ["self", "some"] (spDT K mg TT 2 den_Clerk__safe_of) := by
  unfold den_Clerk__safe_of body_Clerk__safe_of
  exact def_okT l hc sc_Clerk__safe_of fun A outer s H E G hT hr => mss_one (ms_ret (me_callT D_safe_among hT hr (takes_of (E := E) rfl rfl rfl rfl) (ma_cons (me_ix (me_fld F_Clerk_ground (me_use 0)) (me_int)) (ma_cons (me_fld F_Clerk_book (me_use 0)) (ma_cons (me_bl) (ma_cons (me_fld F_Clerk_tapes (me_use 0)) (ma_cons (me_use 1) (ma_nil))))))))
theorem sc_Clerk__reckon_anew : FnScope ["self", "before", "all_met", "b"] ["self"] (defScope (inClass (topS 53) 3)) := ⟨rfl, rfl, rfl, by decide +kernel, rfl, by decide +kernel, by decide +kernel⟩
theorem ok_Clerk__reckon_anew {f c : Addr} {oc kV doc pm ct : Value} {od an : Option Addr} {osl : Array (Option Value)} (l : K.lookup f = some ⟨oc, od, .func (PySem.W.fnOf "reckon_anew" "Clerk.reckon_anew" (defArgs (inClass (topS 53) 3)) (defBody (inClass (topS 53) 3)) (defScope (inClass (topS 53) 3)) .none kV doc pm an (.ref c) ct), osl⟩) (hc : PySem.W.codeIn K (.ref c) "Clerk.reckon_anew" = true) (T : Tx K mg) (F_Clerk_tapes : FldOk K "Clerk" "tapes") (F_Clerk_safe_now : FldOk K "Clerk" "safe_now") (F_Clerk_unsafe : FldOk K "Clerk" "unsafe") (D_met : Df P w K mg base 1 "met" 1 den_met) (D_Clerk__safe_of : DmT P w K mg base TT 7 "Clerk" "safe_of" 2 den_Clerk__safe_of) : FnOk P w K mg base (L2.CX P w) 8 f (PySem.W.fnOf "reckon_anew" "Clerk.reckon_anew" (defArgs (inClass (topS 53) 3)) (defBody (inClass (topS 53) 3)) (defScope (inClass (topS 53) 3)) .none kV doc pm an (.ref c) ct) ["self"] (spDT K mg TT 1 den_Clerk__reckon_anew) := by
  unfold den_Clerk__reckon_anew body_Clerk__reckon_anew
  exact def_okT l hc sc_Clerk__reckon_anew fun A outer s H E G hT hr => mss_cons (ms_par 1 2 sc_Clerk__reckon_anew.nd (ma_cons (me_fld F_Clerk_safe_now (me_use 0)) (ma_cons (me_call D_met hr (takes_of (E := E) rfl rfl rfl rfl) (ma_cons (me_fld F_Clerk_tapes (me_use 0)) (ma_nil))) (ma_nil)))) (mss_cons (ms_fld F_Clerk_safe_now (me_use 0) (me_methT D_Clerk__safe_of hT hr (takes_of (E := E) rfl rfl rfl rfl) (me_use 0) (ma_cons (me_use 2) (ma_nil)))) (mss_cons (ms_fld F_Clerk_unsafe (me_use 0) (me_frz (mf_comp (N := ["self", "before", "all_met", "b"]) (sc := defScope (inClass (topS 53) 3)) [("b", 3)] sc_Clerk__reckon_anew.nd (mi_val (me_use 2)) (by decide +kernel) (fun _ _ _ _ _ => mgc_name 3 sc_Clerk__reckon_anew.nd) (fun _ _ _ _ _ => mts_one (fun _ => mt_cmp (op_pNotInA hr) (me_use 3) (me_fld F_Clerk_safe_now (me_use 0)) (by with_unfolding_all rfl))) (fun _ _ _ _ _ _ => me_use 3)))) (mss_one (ms_ret (me_frz (mf_comp (N := ["self", "before", "all_met", "b"]) (sc := defScope (inClass (topS 53) 3)) [("b", 3)] sc_Clerk__reckon_anew.nd (mi_val (me_use 1)) (by decide +kernel) (fun _ _ _ _ _ => mgc_name 3 sc_Clerk__reckon_anew.nd) (fun _ _ _ _ _ => mts_one (fun _ => mt_cmp (op_pNotInA hr) (me_use 3) (me_fld F_Clerk_safe_now (me_use 0)) (by with_unfolding_all rfl))) (fun _ _ _ _ _ _ => me_use 3)))))))
theorem sc_Clerk__change : FnScope ["self", "book"] ["self", "book"] (defScope (inClass (topS 53) 7)) := ⟨rfl, rfl, rfl, by decide +kernel, rfl, by decide +kernel, by decide +kernel⟩
theorem ok_Clerk__change {f c : Addr} {oc kV doc pm ct : Value} {od an : Option Addr} {osl : Array (Option Value)} (l : K.lookup f = some ⟨oc, od, .func (PySem.W.fnOf "change" "Clerk.change" (defArgs (inClass (topS 53) 7)) (defBody (inClass (topS 53) 7)) (defScope (inClass (topS 53) 7)) .none kV doc pm an (.ref c) ct), osl⟩) (hc : PySem.W.codeIn K (.ref c) "Clerk.change" = true) (T : Tx K mg) (F_Clerk_tapes : FldOk K "Clerk" "tapes") (F_Clerk_book : FldOk K "Clerk" "book") (D_made_book : Df P w K mg base 5 "made_book" 2 den_made_book) (D_Clerk__reckon_anew : DmT P w K mg base TT 8 "Clerk" "reckon_anew" 1 den_Clerk__reckon_anew) : FnOk P w K mg base (L2.CX P w) 9 f (PySem.W.fnOf "change" "Clerk.change" (defArgs (inClass (topS 53) 7)) (defBody (inClass (topS 53) 7)) (defScope (inClass (topS 53) 7)) .none kV doc pm an (.ref c) ct) ["self", "book"] (spDT K mg TT 2 den_Clerk__change) := by
  unfold den_Clerk__change body_Clerk__change
  exact def_okT l hc sc_Clerk__change fun A outer s H E G hT hr => mss_cons (ms_expr (me_call D_made_book hr (takes_of (E := E) rfl rfl rfl rfl) (ma_cons (me_blt c_len T.b_len (ma_cons (me_fld F_Clerk_tapes (me_use 0)) (ma_nil))) (ma_cons (me_use 1) (ma_nil))))) (mss_cons (ms_fld F_Clerk_book (me_use 0) (me_use 1)) (mss_one (ms_ret (me_bty c_tuple T.b_tuple (ma_cons (me_methT0 D_Clerk__reckon_anew hT hr (takes_of (E := E) rfl rfl rfl rfl) (me_use 0)) (ma_nil))))))
theorem sc_is_number : FnScope ["thing", "low", "high"] ["thing", "low", "high"] (defScope (topS 37)) := ⟨rfl, rfl, rfl, by decide +kernel, rfl, by decide +kernel, by decide +kernel⟩
theorem ok_is_number {f : Addr} {fd : FuncData} (F : Fun K "is_number" "is_number" (topS 37) f fd) (T : Tx K mg) : FnOk P w K mg base (L2.CX P w) 1 f fd ["thing", "low", "high"] (spD K mg 3 den_is_number) := by
  unfold den_is_number body_is_number
  exact def_ok F sc_is_number fun cdv A outer s H E G hr => mss_one (ms_ret (me_and (me_blt c_isi T.b_isinstance (ma_cons (me_use 0) (ma_cons (me_ty T.b_int (by decide +kernel)) (ma_nil)))) (me_and (me_not (me_blt c_isi T.b_isinstance (ma_cons (me_use 0) (ma_cons (me_ty T.b_bool (by decide +kernel)) (ma_nil))))) (me_one (me_chain op_pLe op_pLe (me_use 1) (me_use 0) (me_use 2))))))
theorem sc_Clerk__check_shelf : FnScope ["self", "shelf"] ["self", "shelf"] (defScope (inClass (topS 53) 1)) := ⟨rfl, rfl, rfl, by decide +kernel, rfl, by decide +kernel, by decide +kernel⟩
theorem ok_Clerk__check_shelf {f : Addr} {fd : FuncData} (F : Fun K "check_shelf" "Clerk.check_shelf" (inClass (topS 53) 1) f fd) (T : Tx K mg) (F_Clerk_tapes : FldOk K "Clerk" "tapes") (D_is_number : Df P w K mg base 1 "is_number" 3 den_is_number) (E_BadShelf : ErC P w K mg base "BadShelf") : FnOk P w K mg base (L2.CX P w) 3 f fd ["self", "shelf"] (spD K mg 2 den_Clerk__check_shelf) := by
  unfold den_Clerk__check_shelf body_Clerk__check_shelf
  exact def_ok F sc_Clerk__check_shelf fun cdv A outer s H E G hr => mss_one (ms_if (mt_not (mt_tru (me_call D_is_number hr (takes_of (E := E) rfl rfl rfl rfl) (ma_cons (me_use 1) (ma_cons (me_int) (ma_cons (me_op op_pSub (me_blt c_len T.b_len (ma_cons (me_fld F_Clerk_tapes (me_use 0)) (ma_nil))) (me_int)) (ma_nil))))))) (mss_one (ms_raise E_BadShelf hr (takes_of (E := E) rfl rfl rfl rfl) (me_use 1))) (mss_nil))
theorem sc_Clerk__lost : FnScope ["self", "shelf"] ["self", "shelf"] (defScope (inClass (topS 53) 8)) := ⟨rfl, rfl, rfl, by decide +kernel, rfl, by decide +kernel, by decide +kernel⟩
theorem ok_Clerk__lost {f c : Addr} {oc kV doc pm ct : Value} {od an : Option Addr} {osl : Array (Option Value)} (l : K.lookup f = some ⟨oc, od, .func (PySem.W.fnOf "lost" "Clerk.lost" (defArgs (inClass (topS 53) 8)) (defBody (inClass (topS 53) 8)) (defScope (inClass (topS 53) 8)) .none kV doc pm an (.ref c) ct), osl⟩) (hc : PySem.W.codeIn K (.ref c) "Clerk.lost" = true) (T : Tx K mg) (F_Clerk_tapes : FldOk K "Clerk" "tapes") (D_Clerk__check_shelf : Dm P w K mg base 3 "Clerk" "check_shelf" 2 den_Clerk__check_shelf) (D_Clerk__reckon_anew : DmT P w K mg base TT 8 "Clerk" "reckon_anew" 1 den_Clerk__reckon_anew) : FnOk P w K mg base (L2.CX P w) 9 f (PySem.W.fnOf "lost" "Clerk.lost" (defArgs (inClass (topS 53) 8)) (defBody (inClass (topS 53) 8)) (defScope (inClass (topS 53) 8)) .none kV doc pm an (.ref c) ct) ["self", "shelf"] (spDT K mg TT 2 den_Clerk__lost) := by
  unfold den_Clerk__lost body_Clerk__lost
  exact def_okT l hc sc_Clerk__lost fun A outer s H E G hT hr => mss_cons (ms_expr (me_meth D_Clerk__check_shelf hr (takes_of (E := E) rfl rfl rfl rfl) (me_use 0) (ma_cons (me_use 1) (ma_nil)))) (mss_cons (ms_setR (me_tup (ma_nil)) (me_fld F_Clerk_tapes (me_use 0)) (me_use 1)) (mss_one (ms_ret (me_bty c_tuple T.b_tuple (ma_cons (me_methT0 D_Clerk__reckon_anew hT hr (takes_of (E := E) rfl rfl rfl rfl) (me_use 0)) (ma_nil))))))
theorem sc_Clerk__write : FnScope ["self", "shelf", "b", "news", "other"] ["self", "shelf", "b"] (defScope (inClass (topS 53) 4)) := ⟨rfl, rfl, rfl, by decide +kernel, rfl, by decide +kernel, by decide +kernel⟩
theorem ok_Clerk__write {f c : Addr} {oc kV doc pm ct : Value} {od an : Option Addr} {osl : Array (Option Value)} (l : K.lookup f = some ⟨oc, od, .func (PySem.W.fnOf "write" "Clerk.write" (defArgs (inClass (topS 53) 4)) (defBody (inClass (topS 53) 4)) (defScope (inClass (topS 53) 4)) .none kV doc pm an (.ref c) ct), osl⟩) (hc : PySem.W.codeIn K (.ref c) "Clerk.write" = true) (T : Tx K mg) (F_Clerk_tapes : FldOk K "Clerk" "tapes") (F_Clerk_safe_now : FldOk K "Clerk" "safe_now") (F_Clerk_unsafe : FldOk K "Clerk" "unsafe") (D_Clerk__check_shelf : Dm P w K mg base 3 "Clerk" "check_shelf" 2 den_Clerk__check_shelf) (D_is_number : Df P w K mg base 1 "is_number" 3 den_is_number) (D_Clerk__safe_of : DmT P w K mg base TT 7 "Clerk" "safe_of" 2 den_Clerk__safe_of) (E_BadNumber : ErC P w K mg base "BadNumber") (E_Full : ErC P w K mg base "Full") : FnOk P w K mg base (L2.CX P w) 8 f (PySem.W.fnOf "write" "Clerk.write" (defArgs (inClass (topS 53) 4)) (defBody (inClass (topS 53) 4)) (defScope (inClass (topS 53) 4)) .none kV doc pm an (.ref c) ct) ["self", "shelf", "b"] (spDT K mg TT 3 den_Clerk__write) := by
  obtain ⟨t_MOST_BATCHES_safety, c_MOST_BATCHES_safety⟩ := T.c_MOST_BATCHES_safety
  obtain ⟨t_MOST_CELLS_moments, c_MOST_CELLS_moments⟩ := T.c_MOST_CELLS_moments
  unfold den_Clerk__write body_Clerk__write
  exact def_okT l hc sc_Clerk__write fun A outer s H E G hT hr => mss_cons (ms_expr (me_meth D_Clerk__check_shelf hr (takes_of (E := E) rfl rfl rfl rfl) (me_use 0) (ma_cons (me_use 1) (ma_nil)))) (mss_cons (ms_if (mt_not (mt_tru (me_call D_is_number hr (takes_of (E := E) rfl rfl rfl rfl) (ma_cons (me_use 2) (ma_cons (me_int) (ma_cons (me_op op_pSub (me_gint c_MOST_BATCHES_safety) (me_int)) (ma_nil))))))) (mss_one (ms_raise E_BadNumber hr (takes_of (E := E) rfl rfl rfl rfl) (me_use 2))) (mss_nil)) (mss_cons (ms_if (mt_cmp (op_pEq hr) (me_blt c_len T.b_len (ma_cons (me_ix (me_fld F_Clerk_tapes (me_use 0)) (me_use 1)) (ma_nil))) (me_gint c_MOST_CELLS_moments) (nomark _)) (mss_one (ms_raise E_Full hr (takes_of (E := E) rfl rfl rfl rfl) (me_use 1))) (mss_nil)) (mss_cons (ms_setR (me_op op_pAdd (me_ix (me_fld F_Clerk_tapes (me_use 0)) (me_use 1)) (me_tup (ma_cons (me_use 2) (ma_nil)))) (me_fld F_Clerk_tapes (me_use 0)) (me_use 1)) (mss_cons (ms_if (mt_w (mw_and (mt_cmp (op_pNotInA hr) (me_use 2) (me_fld F_Clerk_safe_now (me_use 0)) (by with_unfolding_all rfl)) (mw_and1 (mt_cmp (op_pNotInA hr) (me_use 2) (me_fld F_Clerk_unsafe (me_use 0)) (by with_unfolding_all rfl))))) (mss_one (ms_fld F_Clerk_unsafe (me_use 0) (me_frz (mf_srtI hr T.b_sorted (me_op op_pAdd (me_fld F_Clerk_unsafe (me_use 0)) (me_frz (mf_disp (ma_cons (me_use 2) (ma_nil))))))))) (mss_nil)) (mss_cons (ms_set 3 sc_Clerk__write.nd (me_methT D_Clerk__safe_of hT hr (takes_of (E := E) rfl rfl rfl rfl) (me_use 0) (ma_cons (me_fld F_Clerk_unsafe (me_use 0)) (ma_nil)))) (mss_cons (ms_fld F_Clerk_unsafe (me_use 0) (me_frz (mf_comp (N := ["self", "shelf", "b", "news", "other"]) (sc := defScope (inClass (topS 53) 4)) [("other", 4)] sc_Clerk__write.nd (mi_val (me_fld F_Clerk_unsafe (me_use 0))) (by decide +kernel) (fun _ _ _ _ _ => mgc_name 4 sc_Clerk__write.nd) (fun _ _ _ _ _ => mts_one (fun _ => mt_cmp (op_pNotInA hr) (me_use 4) (me_use 3) (by with_unfolding_all rfl))) (fun _ _ _ _ _ _ => me_use 4)))) (mss_cons (ms_fld F_Clerk_safe_now (me_use 0) (me_frz (mf_srtI hr T.b_sorted (me_op op_pAdd (me_fld F_Clerk_safe_now (me_use 0)) (me_use 3))))) (mss_one (ms_ret (me_bty c_tuple T.b_tuple (ma_cons (me_use 3) (ma_nil))))))))))))
theorem sc_Clerk__done : FnScope ["self"] ["self"] (defScope (inClass (topS 53) 6)) := ⟨rfl, rfl, rfl, by decide +kernel, rfl, by decide +kernel, by decide +kernel⟩
theorem ok_Clerk__done {f : Addr} {fd : FuncData} (F : Fun K "done" "Clerk.done" (inClass (topS 53) 6) f fd) (T : Tx K mg) (F_Clerk_safe_now : FldOk K "Clerk" "safe_now") : FnOk P w K mg base (L2.CX P w) 1 f fd ["self"] (spD K mg 1 den_Clerk__done) := by
  unfold den_Clerk__done body_Clerk__done
  exact def_ok F sc_Clerk__done fun cdv A outer s H E G hr => mss_one (ms_ret (me_bty c_tuple T.b_tuple (ma_cons (me_fld F_Clerk_safe_now (me_use 0)) (ma_nil))))
theorem sc_check_told : FnScope ["told"] ["told"] (defScope (topS 38)) := ⟨rfl, rfl, rfl, by decide +kernel, rfl, by decide +kernel, by decide +kernel⟩
theorem ok_check_told {f : Addr} {fd : FuncData} (F : Fun K "check_told" "check_told" (topS 38) f fd) (T : Tx K mg) (E_BadTold : ErC P w K mg base "BadTold") : FnOk P w K mg base (L2.CX P w) 3 f fd ["told"] (spD K mg 1 den_check_told) := by
  unfold den_check_told body_check_told
  exact def_ok F sc_check_told fun cdv A outer s H E G hr => mss_one (ms_if (mt_not (mt_tru (me_blt c_isi T.b_isinstance (ma_cons (me_use 0) (ma_cons (me_ty T.b_bool (by decide +kernel)) (ma_nil)))))) (mss_one (ms_raise E_BadTold hr (takes_of (E := E) rfl rfl rfl rfl) (me_use 0))) (mss_nil))
theorem sc_is_tape : FnScope ["thing", "number"] ["thing"] (defScope (topS 25)) := ⟨rfl, rfl, rfl, by decide +kernel, rfl, by decide +kernel, by decide +kernel⟩
theorem ok_is_tape {f : Addr} {fd : FuncData} (F : Fun K "is_tape" "is_tape" (topS 25) f fd) (T : Tx K mg) (D_is_below : Df P w K mg base 1 "is_below" 2 den_is_below) : FnOk P w K mg base (L2.CX P w) 2 f fd ["thing"] (spD K mg 1 den_is_tape) := by
  obtain ⟨t_MOST_BATCHES_tapes, c_MOST_BATCHES_tapes⟩ := T.c_MOST_BATCHES_tapes
  obtain ⟨t_MOST_CELLS_tapes, c_MOST_CELLS_tapes⟩ := T.c_MOST_CELLS_tapes
  unfold den_is_tape body_is_tape
  exact def_ok F sc_is_tape fun cdv A outer s H E G hr => mss_cons (ms_if (mt_w (mw_or (mt_not (mt_tru (me_blt c_isi T.b_isinstance (ma_cons (me_use 0) (ma_cons (me_ty T.b_tuple (by decide +kernel)) (ma_nil)))))) (mw_or1 (mt_cmp op_pGt (me_blt c_len T.b_len (ma_cons (me_use 0) (ma_nil))) (me_gint c_MOST_CELLS_tapes) (nomark _))))) (mss_one (ms_ret (me_bl))) (mss_nil)) (mss_cons (ms_for (passes_of rfl) (mi_val (me_use 0)) (mg_name 1 sc_is_tape.nd) (mss_one (ms_if (mt_not (mt_tru (me_call D_is_below hr (takes_of (E := E) rfl rfl rfl rfl) (ma_cons (me_use 1) (ma_cons (me_gint c_MOST_BATCHES_tapes) (ma_nil)))))) (mss_one (ms_ret (me_bl))) (mss_nil)))) (mss_one (ms_ret (me_bl))))
theorem sc_made_weaving : FnScope ["ground", "thing", "shelf", "tape"] ["ground", "thing"] (defScope (topS 26)) := ⟨rfl, rfl, rfl, by decide +kernel, rfl, by decide +kernel, by decide +kernel⟩
theorem ok_made_weaving {f : Addr} {fd : FuncData} (F : Fun K "made_weaving" "made_weaving" (topS 26) f fd) (T : Tx K mg) (D_made_ground : Df P w K mg base 3 "made_ground" 1 den_made_ground) (D_shelves : Df P w K mg base 4 "shelves" 1 den_shelves) (D_is_tape : Df P w K mg base 2 "is_tape" 1 den_is_tape) (E_BadWeaving : ErC P w K mg base "BadWeaving") : FnOk P w K mg base (L2.CX P w) 5 f fd ["ground", "thing"] (spD K mg 2 den_made_weaving) := by
  unfold den_made_weaving body_made_weaving
  exact def_ok F sc_made_weaving fun cdv A outer s H E G hr => mss_cons (ms_set 0 sc_made_weaving.nd (me_call D_made_ground hr (takes_of (E := E) rfl rfl rfl rfl) (ma_cons (me_use 0) (ma_nil)))) (mss_cons (ms_if (mt_w (mw_or (mt_not (mt_tru (me_blt c_isi T.b_isinstance (ma_cons (me_use 1) (ma_cons (me_ty T.b_tuple (by decide +kernel)) (ma_nil)))))) (mw_or1 (mt_cmp (op_pNe hr) (me_blt c_len T.b_len (ma_cons (me_use 1) (ma_nil))) (me_call D_shelves hr (takes_of (E := E) rfl rfl rfl rfl) (ma_cons (me_use 0) (ma_nil))) (nomark _))))) (mss_one (ms_raise E_BadWeaving hr (takes_of (E := E) rfl rfl rfl rfl) (me_neg (me_int)))) (mss_nil)) (mss_cons (ms_for (passes_of rfl) (mi_enum T.b_enumerate (ma_cons (me_use 1) (ma_nil))) (mg_tup (mgs_cons (mg_name 2 sc_made_weaving.nd) (mgs_cons (mg_name 3 sc_made_weaving.nd) (mgs_nil)))) (mss_one (ms_if (mt_not (mt_tru (me_call D_is_tape hr (takes_of (E := E) rfl rfl rfl rfl) (ma_cons (me_use 3) (ma_nil))))) (mss_one (ms_raise E_BadWeaving hr (takes_of (E := E) rfl rfl rfl rfl) (me_use 2))) (mss_nil)))) (mss_one (ms_ret (me_use 1)))))
theorem sc_checked : FnScope ["ground", "book", "told", "weaving"] ["ground", "book", "told", "weaving"] (defScope (topS 46)) := ⟨rfl, rfl, rfl, by decide +kernel, rfl, by decide +kernel, by decide +kernel⟩
theorem ok_checked {f : Addr} {fd : FuncData} (F : Fun K "checked" "checked" (topS 46) f fd) (T : Tx K mg) (D_made_ground : Df P w K mg base 3 "made_ground" 1 den_made_ground) (D_made_book : Df P w K mg base 5 "made_book" 2 den_made_book) (D_shelves : Df P w K mg base 4 "shelves" 1 den_shelves) (D_check_told : Df P w K mg base 3 "check_told" 1 den_check_told) (D_made_weaving : Df P w K mg base 5 "made_weaving" 2 den_made_weaving) : FnOk P w K mg base (L2.CX P w) 6 f fd ["ground", "book", "told", "weaving"] (spD K mg 4 den_checked) := by
  unfold den_checked body_checked
  exact def_ok F sc_checked fun cdv A outer s H E G hr => mss_cons (ms_expr (me_call D_made_ground hr (takes_of (E := E) rfl rfl rfl rfl) (ma_cons (me_use 0) (ma_nil)))) (mss_cons (ms_expr (me_call D_made_book hr (takes_of (E := E) rfl rfl rfl rfl) (ma_cons (me_call D_shelves hr (takes_of (E := E) rfl rfl rfl rfl) (ma_cons (me_use 0) (ma_nil))) (ma_cons (me_use 1) (ma_nil))))) (mss_cons (ms_expr (me_call D_check_told hr (takes_of (E := E) rfl rfl rfl rfl) (ma_cons (me_use 2) (ma_nil)))) (mss_one (ms_expr (me_call D_made_weaving hr (takes_of (E := E) rfl rfl rfl rfl) (ma_cons (me_use 0) (ma_cons (me_use 3) (ma_nil))))))))
theorem sc_done : FnScope ["ground", "book", "told", "weaving"] ["ground", "book", "told", "weaving"] (defScope (topS 50)) := ⟨rfl, rfl, rfl, by decide +kernel, rfl, by decide +kernel, by decide +kernel⟩
theorem ok_done {f c : Addr} {oc kV doc pm ct : Value} {od an : Option Addr} {osl : Array (Option Value)} (l : K.lookup f = some ⟨oc, od, .func (PySem.W.fnOf "done" "done" (defArgs (topS 50)) (defBody (topS 50)) (defScope (topS 50)) .none kV doc pm an (.ref c) ct), osl⟩) (hc : PySem.W.codeIn K (.ref c) "done" = true) (T : Tx K mg) (D_checked : Df P w K mg base 6 "checked" 4 den_checked) (D_safe_among : DfT P w K mg base TT 6 "safe_among" 5 den_safe_among) (D_met : Df P w K mg base 1 "met" 1 den_met) : FnOk P w K mg base (L2.CX P w) 7 f (PySem.W.fnOf "done" "done" (defArgs (topS 50)) (defBody (topS 50)) (defScope (topS 50)) .none kV doc pm an (.ref c) ct) ["ground", "book", "told", "weaving"] (spDT K mg TT 4 den_done) := by
  unfold den_done body_done
  exact def_okT l hc sc_done fun A outer s H E G hT hr => mss_cons (ms_expr (me_call D_checked hr (takes_of (E := E) rfl rfl rfl rfl) (ma_cons (me_use 0) (ma_cons (me_use 1) (ma_cons (me_use 2) (ma_cons (me_use 3) (ma_nil))))))) (mss_one (ms_ret (me_bty c_tuple T.b_tuple (ma_cons (me_callT D_safe_among hT hr (takes_of (E := E) rfl rfl rfl rfl) (ma_cons (me_ix (me_use 0) (me_int)) (ma_cons (me_use 1) (ma_cons (me_use 2) (ma_cons (me_use 3) (ma_cons (me_call D_met hr (takes_of (E := E) rfl rfl rfl rfl) (ma_cons (me_use 3) (ma_nil))) (ma_nil))))))) (ma_nil)))))
theorem sc_Clerk__weaving : FnScope ["self"] ["self"] (defScope (inClass (topS 53) 5)) := ⟨rfl, rfl, rfl, by decide +kernel, rfl, by decide +kernel, by decide +kernel⟩
theorem ok_Clerk__weaving {f : Addr} {fd : FuncData} (F : Fun K "weaving" "Clerk.weaving" (inClass (topS 53) 5) f fd) (T : Tx K mg) (F_Clerk_tapes : FldOk K "Clerk" "tapes") : FnOk P w K mg base (L2.CX P w) 1 f fd ["self"] (spD K mg 1 den_Clerk__weaving) := by
  unfold den_Clerk__weaving body_Clerk__weaving
  exact def_ok F sc_Clerk__weaving fun cdv A outer s H E G hr => mss_one (ms_ret (me_bty c_tuple T.b_tuple (ma_cons (me_fld F_Clerk_tapes (me_use 0)) (ma_nil))))
theorem sc__law_least : FnScope ["_law_entries", "_law_row_here"] ["_law_entries"] (defScope (topS 67)) := ⟨rfl, rfl, rfl, by decide +kernel, rfl, by decide +kernel, by decide +kernel⟩
theorem ok__law_least {f : Addr} {fd : FuncData} (F : Fun K "_law_least" "_law_least" (topS 67) f fd) (T : Tx K mg) : FnOk P w K mg base (L2.CX P w) 1 f fd ["_law_entries"] (spD K mg 1 den__law_least) := by
  unfold den__law_least body__law_least
  exact def_ok F sc__law_least fun cdv A outer s H E G hr => mss_one (ms_ret (me_blt c_minL T.b_min (ma_cons (me_frz (mf_comp (N := ["_law_entries", "_law_row_here"]) (sc := defScope (topS 67)) [("_law_row_here", 1)] sc__law_least.nd (mi_val (me_use 0)) (by decide +kernel) (fun _ _ _ _ _ => mgc_name 1 sc__law_least.nd) (fun _ _ _ _ _ => mts_nil) (fun _ _ _ _ _ _ => me_blt c_minL T.b_min (ma_cons (me_use 1) (ma_nil))))) (ma_nil))))
theorem sc__law_greater : FnScope ["_law_one", "_law_other"] ["_law_one", "_law_other"] (defScope (topS 63)) := ⟨rfl, rfl, rfl, by decide +kernel, rfl, by decide +kernel, by decide +kernel⟩
theorem ok__law_greater {f : Addr} {fd : FuncData} (F : Fun K "_law_greater" "_law_greater" (topS 63) f fd) (T : Tx K mg) : FnOk P w K mg base (L2.CX P w) 1 f fd ["_law_one", "_law_other"] (spD K mg 2 den__law_greater) := by
  unfold den__law_greater body__law_greater
  exact def_ok F sc__law_greater fun cdv A outer s H E G hr => mss_one (ms_ret (me_if (mt_w (mw_or (mt_cmp op_pIs (me_use 0) (me_non) (nomark _)) (mw_or1 (mt_cmp op_pIs (me_use 1) (me_non) (nomark _))))) (me_non) (me_blt c_max T.b_max (ma_cons (me_use 0) (ma_cons (me_use 1) (ma_nil))))))
theorem sc__law_lesser : FnScope ["_law_one", "_law_other"] ["_law_one", "_law_other"] (defScope (topS 64)) := ⟨rfl, rfl, rfl, by decide +kernel, rfl, by decide +kernel, by decide +kernel⟩
theorem ok__law_lesser {f : Addr} {fd : FuncData} (F : Fun K "_law_lesser" "_law_lesser" (topS 64) f fd) (T : Tx K mg) : FnOk P w K mg base (L2.CX P w) 1 f fd ["_law_one", "_law_other"] (spD K mg 2 den__law_lesser) := by
  unfold den__law_lesser body__law_lesser
  exact def_ok F sc__law_lesser fun cdv A outer s H E G hr => mss_cons (ms_if (mt_w (mw_or (mt_cmp op_pIs (me_use 0) (me_non) (nomark _)) (mw_or1 (mt_cmp op_pIs (me_use 1) (me_non) (nomark _))))) (mss_one (ms_ret (me_if (mt_cmp op_pIs (me_use 0) (me_non) (nomark _)) (me_use 1) (me_use 0)))) (mss_nil)) (mss_one (ms_ret (me_blt c_min T.b_min (ma_cons (me_use 0) (ma_cons (me_use 1) (ma_nil))))))
theorem sc__law_head : FnScope ["_law_one", "_law_other", "_law_length", "_law_told", "_law_lies", "_law_gone"] ["_law_one", "_law_other", "_law_length", "_law_told"] (defScope (topS 65)) := ⟨rfl, rfl, rfl, by decide +kernel, rfl, by decide +kernel, by decide +kernel⟩
theorem ok__law_head {f : Addr} {fd : FuncData} (F : Fun K "_law_head" "_law_head" (topS 65) f fd) (T : Tx K mg) (D__law_lesser : Df P w K mg base 1 "_law_lesser" 2 den__law_lesser) (D__law_greater : Df P w K mg base 1 "_law_greater" 2 den__law_greater) : FnOk P w K mg base (L2.CX P w) 2 f fd ["_law_one", "_law_other", "_law_length", "_law_told"] (spD K mg 4 den__law_head) := by
  unfold den__law_head body__law_head
  exact def_ok F sc__law_head fun cdv A outer s H E G hr => mss_cons (ms_par 4 5 sc__law_head.nd (ma_cons (me_call D__law_greater hr (takes_of (E := E) rfl rfl rfl rfl) (ma_cons (me_ix (me_use 0) (me_int)) (ma_cons (me_ix (me_use 1) (me_int)) (ma_nil)))) (ma_cons (me_if (mt_tru (me_use 3)) (me_call D__law_lesser hr (takes_of (E := E) rfl rfl rfl rfl) (ma_cons (me_ix (me_use 0) (me_int)) (ma_cons (me_ix (me_use 1) (me_int)) (ma_nil)))) (me_ix (me_use 0) (me_int))) (ma_nil)))) (mss_one (ms_ret (me_if (mt_w (mw_or (mt_cmp op_pIs (me_use 4) (me_non) (nomark _)) (mw_or1 (mt_cmp op_pIs (me_use 5) (me_non) (nomark _))))) (me_int) (me_blt c_max T.b_max (ma_cons (me_int) (ma_cons (me_op op_pSub (me_op op_pSub (me_use 2) (me_use 5)) (me_use 4)) (ma_nil)))))))
theorem sc__law_sums : FnScope ["_law_book_here", "_law_told", "_law_weaving", "_law_b", "_law_found", "_law_one", "_law_entries", "_law_other", "_law_heads", "_law_shelf", "_law_tape"] ["_law_book_here", "_law_told", "_law_weaving", "_law_b"] (defScope (topS 66)) := ⟨rfl, rfl, rfl, by decide +kernel, rfl, by decide +kernel, by decide +kernel⟩
theorem ok__law_sums {f : Addr} {fd : FuncData} (F : Fun K "_law_sums" "_law_sums" (topS 66) f fd) (T : Tx K mg) (D__law_head : Df P w K mg base 2 "_law_head" 4 den__law_head) : FnOk P w K mg base (L2.CX P w) 3 f fd ["_law_book_here", "_law_told", "_law_weaving", "_law_b"] (spD K mg 4 den__law_sums) := by
  unfold den__law_sums body__law_sums
  exact def_ok F sc__law_sums fun cdv A outer s H E G hr => mss_cons (ms_own 4 sc__law_sums.nd (mf_disp (ma_nil))) (mss_cons (ms_for (passes_of rfl) (mi_val (me_use 0)) (mg_name 5 sc__law_sums.nd) (mss_cons (ms_own 6 sc__law_sums.nd (mf_disp (ma_nil))) (mss_cons (ms_for (passes_of rfl) (mi_val (me_use 0)) (mg_name 7 sc__law_sums.nd) (mss_cons (ms_set 8 sc__law_sums.nd (me_frz (mf_comp (N := ["_law_book_here", "_law_told", "_law_weaving", "_law_b", "_law_found", "_law_one", "_law_entries", "_law_other", "_law_heads", "_law_shelf", "_law_tape"]) (sc := defScope (topS 66)) [("_law_shelf", 9), ("_law_tape", 10)] sc__law_sums.nd (mi_enum T.b_enumerate (ma_cons (me_use 2) (ma_nil))) (by decide +kernel) (fun _ _ _ _ _ => mgc_tup (mgcs_cons (mgc_name 9 sc__law_sums.nd) (mgcs_cons (mgc_name 10 sc__law_sums.nd) (mgcs_nil)))) (fun _ _ _ _ _ => mts_nil) (fun _ _ _ _ _ _ => me_call D__law_head hr takes0 (ma_cons (me_ix (me_use 5) (me_use 9)) (ma_cons (me_ix (me_use 7) (me_use 9)) (ma_cons (me_blt c_len T.b_len (ma_cons (me_use 10) (ma_nil))) (ma_cons (me_use 1) (ma_nil))))))))) (mss_one (ms_expr (me_mthO (slot := PySem.F.slot_list_append) 6 m_append PySem.F.type_list_append (ma_cons (me_blt c_sum T.b_sum (ma_cons (me_frz (mf_comp (N := ["_law_book_here", "_law_told", "_law_weaving", "_law_b", "_law_found", "_law_one", "_law_entries", "_law_other", "_law_heads", "_law_shelf", "_law_tape"]) (sc := defScope (topS 66)) [("_law_shelf", 9), ("_law_tape", 10)] sc__law_sums.nd (mi_enum T.b_enumerate (ma_cons (me_use 2) (ma_nil))) (by decide +kernel) (fun _ _ _ _ _ => mgc_tup (mgcs_cons (mgc_name 9 sc__law_sums.nd) (mgcs_cons (mgc_name 10 sc__law_sums.nd) (mgcs_nil)))) (fun _ _ _ _ _ => mts_nil) (fun _ _ _ _ _ _ => me_count hr (me_cut (me_use 10) (mo_none) (mo_some (me_ix (me_use 8) (me_use 9)))) (ma_cons (me_use 3) (ma_nil))))) (ma_nil))) (ma_nil))))))) (mss_one (ms_expr (me_mthO (slot := PySem.F.slot_list_append) 4 m_append PySem.F.type_list_append (ma_cons (me_bty c_tuple T.b_tuple (ma_cons (me_use 6) (ma_nil))) (ma_nil)))))))) (mss_one (ms_ret (me_bty c_tuple T.b_tuple (ma_cons (me_use 4) (ma_nil))))))
theorem sc__law_anew : FnScope ["_law_pool_here", "_law_ground_here", "_law_book_here", "_law_tapes", "_law_clerk", "_law_left", "_law_found", "_law_tape", "_law_turn", "_law_some", "_law_shelf"] ["_law_pool_here", "_law_ground_here", "_law_book_here", "_law_tapes"] (defScope (topS 68)) := ⟨rfl, rfl, rfl, by decide +kernel, rfl, by decide +kernel, by decide +kernel⟩
theorem ok__law_anew {f c : Addr} {oc kV doc pm ct : Value} {od an : Option Addr} {osl : Array (Option Value)} (l : K.lookup f = some ⟨oc, od, .func (PySem.W.fnOf "_law_anew" "_law_anew" (defArgs (topS 68)) (defBody (topS 68)) (defScope (topS 68)) .none kV doc pm an (.ref c) ct), osl⟩) (hc : PySem.W.codeIn K (.ref c) "_law_anew" = true) (T : Tx K mg) (D_Clerk____init__ : Dk P w K mg base 6 "Clerk" 3 den_Clerk____init__) (D__law_draw : Df P w K mg base 1 "_law_draw" 2 den__law_draw) (D_Clerk__write : DmT P w K mg base TT 8 "Clerk" "write" 3 den_Clerk__write) (D_Clerk__weaving : Dm P w K mg base 1 "Clerk" "weaving" 1 den_Clerk__weaving) (D_Clerk__done : Dm P w K mg base 1 "Clerk" "done" 1 den_Clerk__done) : FnOk P w K mg base (L2.CX P w) 9 f (PySem.W.fnOf "_law_anew" "_law_anew" (defArgs (topS 68)) (defBody (topS 68)) (defScope (topS 68)) .none kV doc pm an (.ref c) ct) ["_law_pool_here", "_law_ground_here", "_law_book_here", "_law_tapes"] (spDT K mg TT 4 den__law_anew) := by
  unfold den__law_anew body__law_anew
  exact def_okT l hc sc__law_anew fun A outer s H E G hT hr => mss_cons (ms_asg (me_tup (ma_cons (me_make D_Clerk____init__ hr (takes_of (E := E) rfl rfl rfl rfl) (ma_cons (me_use 1) (ma_cons (me_use 2) (ma_nil)))) (ma_cons (me_frz (mf_compR (N := ["_law_pool_here", "_law_ground_here", "_law_book_here", "_law_tapes", "_law_clerk", "_law_left", "_law_found", "_law_tape", "_law_turn", "_law_some", "_law_shelf"]) (sc := defScope (topS 68)) (me_use 3) [("_law_tape", 7)] sc__law_anew.nd (by decide +kernel) (fun _ _ _ _ _ => mgc_name 7 sc__law_anew.nd) (fun _ _ _ _ _ => mts_nil) (fun _ _ _ _ _ _ => me_new (mf_list (me_use 7) T.b_list)))) (ma_cons (me_new (mf_disp (ma_nil))) (ma_nil))))) (mg_tup (mgs_cons (mg_name 4 sc__law_anew.nd) (mgs_cons (mg_name 5 sc__law_anew.nd) (mgs_cons (mg_name 6 sc__law_anew.nd) (mgs_nil)))))) (mss_cons (ms_for (passes_of rfl) (mi_range1 T.b_range (ma_cons (me_blt c_sum T.b_sum (ma_cons (me_frz (mf_compR (N := ["_law_pool_here", "_law_ground_here", "_law_book_here", "_law_tapes", "_law_clerk", "_law_left", "_law_found", "_law_tape", "_law_turn", "_law_some", "_law_shelf"]) (sc := defScope (topS 68)) (me_use 3) [("_law_tape", 7)] sc__law_anew.nd (by decide +kernel) (fun _ _ _ _ _ => mgc_name 7 sc__law_anew.nd) (fun _ _ _ _ _ => mts_nil) (fun _ _ _ _ _ _ => me_blt c_len T.b_len (ma_cons (me_use 7) (ma_nil))))) (ma_nil))) (ma_nil))) (mg_name 8 sc__law_anew.nd) (mss_cons (ms_comp (N := ["_law_pool_here", "_law_ground_here", "_law_book_here", "_law_tapes", "_law_clerk", "_law_left", "_law_found", "_law_tape", "_law_turn", "_law_some", "_law_shelf"]) (sc := defScope (topS 68)) 9 [("_law_shelf", 10)] sc__law_anew.nd (mi_range1 T.b_range (ma_cons (me_blt c_len T.b_len (ma_cons (me_use 5) (ma_nil))) (ma_nil))) (by decide +kernel) (fun _ _ _ _ _ => mgc_name 10 sc__law_anew.nd) (fun _ _ _ _ _ => mts_one (fun _ => mt_cmp (op_pNe hr) (me_ix (me_use 5) (me_use 10)) (me_frz (mf_disp (ma_nil))) (nomark _))) (fun _ _ _ _ _ _ => me_use 10)) (mss_cons (ms_set 10 sc__law_anew.nd (me_ix (me_use 9) (me_call D__law_draw hr (takes_of (E := E) rfl rfl rfl rfl) (ma_cons (me_use 0) (ma_cons (me_blt c_len T.b_len (ma_cons (me_use 9) (ma_nil))) (ma_nil)))))) (mss_one (ms_expr (me_mthRK (slot := PySem.F.slot_list_extend) m_extT PySem.F.type_list_extend (me_use 6) (ma_cons (me_methT D_Clerk__write hT hr (takes_of (E := E) rfl rfl rfl rfl) (me_use 4) (ma_cons (me_use 10) (ma_cons (me_mthR (slot := PySem.F.slot_list_pop) m_popAt PySem.F.type_list_pop (me_ix (me_use 5) (me_use 10)) (ma_cons (me_int) (ma_nil))) (ma_nil)))) (ma_nil)))))))) (mss_one (ms_ret (me_tup (ma_cons (me_meth0 D_Clerk__done hr (takes_of (E := E) rfl rfl rfl rfl) (me_use 4)) (ma_cons (me_meth0 D_Clerk__weaving hr (takes_of (E := E) rfl rfl rfl rfl) (me_use 4)) (ma_cons (me_bty c_tuple T.b_tuple (ma_cons (me_frz (mf_srtI hr T.b_sorted (me_use 6))) (ma_nil))) (ma_nil))))))))
theorem sc_law : FnScope ["_law_script", "_law_pool_here", "_law_ground_here", "_law_many", "_law_book_here", "_law_clerk", "_law_tapes", "_law_shelf", "_law_turn", "_law_way", "_law_due", "_law_b", "_law_told"] ["_law_script"] (defScope (topS 69)) := ⟨rfl, rfl, rfl, by decide +kernel, rfl, by decide +kernel, by decide +kernel⟩
theorem ok_law {f c : Addr} {oc kV doc pm ct : Value} {od an : Option Addr} {osl : Array (Option Value)} (l : K.lookup f = some ⟨oc, od, .func (PySem.W.fnOf "law" "law" (defArgs (topS 69)) (defBody (topS 69)) (defScope (topS 69)) .none kV doc pm an (.ref c) ct), osl⟩) (hc : PySem.W.codeIn K (.ref c) "law" = true) (T : Tx K mg) (D__law_pool : Df P w K mg base 1 "_law_pool" 1 den__law_pool) (D__law_ground : Df P w K mg base 3 "_law_ground" 3 den__law_ground) (D__law_book : Df P w K mg base 5 "_law_book" 2 den__law_book) (D_Clerk____init__ : Dk P w K mg base 6 "Clerk" 3 den_Clerk____init__) (D__law_draw : Df P w K mg base 1 "_law_draw" 2 den__law_draw) (D_Clerk__change : DmT P w K mg base TT 9 "Clerk" "change" 2 den_Clerk__change) (D_Clerk__lost : DmT P w K mg base TT 9 "Clerk" "lost" 2 den_Clerk__lost) (D_Clerk__write : DmT P w K mg base TT 8 "Clerk" "write" 3 den_Clerk__write) (D__law_least : Df P w K mg base 1 "_law_least" 1 den__law_least) (D__law_sums : Df P w K mg base 3 "_law_sums" 4 den__law_sums) (D_Clerk__done : Dm P w K mg base 1 "Clerk" "done" 1 den_Clerk__done) (D_done : DfT P w K mg base TT 7 "done" 4 den_done) (D_Clerk__weaving : Dm P w K mg base 1 "Clerk" "weaving" 1 den_Clerk__weaving) (D__law_anew : DfT P w K mg base TT 9 "_law_anew" 4 den__law_anew) : FnOk P w K mg base (L2.CX P w) 10 f (PySem.W.fnOf "law" "law" (defArgs (topS 69)) (defBody (topS 69)) (defScope (topS 69)) .none kV doc pm an (.ref c) ct) ["_law_script"] (spDT K mg TT 1 den_law) := by
  unfold den_law body_law
  exact def_okT l hc sc_law fun A outer s H E G hT hr => mss_cons (ms_set 1 sc_law.nd (me_call D__law_pool hr (takes_of (E := E) rfl rfl rfl rfl) (ma_cons (me_use 0) (ma_nil)))) (mss_cons (ms_set 2 sc_law.nd (me_call D__law_ground hr (takes_of (E := E) rfl rfl rfl rfl) (ma_cons (me_use 1) (ma_cons (me_int) (ma_cons (me_int) (ma_nil)))))) (mss_cons (ms_set 3 sc_law.nd (me_blt c_len T.b_len (ma_cons (me_ix (me_use 2) (me_int)) (ma_nil)))) (mss_cons (ms_set 4 sc_law.nd (me_call D__law_book hr (takes_of (E := E) rfl rfl rfl rfl) (ma_cons (me_use 1) (ma_cons (me_use 3) (ma_nil))))) (mss_cons (ms_asg (me_tup (ma_cons (me_make D_Clerk____init__ hr (takes_of (E := E) rfl rfl rfl rfl) (ma_cons (me_use 2) (ma_cons (me_use 4) (ma_nil)))) (ma_cons (me_new (mf_comp (N := ["_law_script", "_law_pool_here", "_law_ground_here", "_law_many", "_law_book_here", "_law_clerk", "_law_tapes", "_law_shelf", "_law_turn", "_law_way", "_law_due", "_law_b", "_law_told"]) (sc := defScope (topS 69)) [("_law_shelf", 7)] sc_law.nd (mi_range1 T.b_range (ma_cons (me_use 3) (ma_nil))) (by decide +kernel) (fun _ _ _ _ _ => mgc_name 7 sc_law.nd) (fun _ _ _ _ _ => mts_nil) (fun _ _ _ _ _ _ => me_tup (ma_nil)))) (ma_nil)))) (mg_tup (mgs_cons (mg_name 5 sc_law.nd) (mgs_cons (mg_name 6 sc_law.nd) (mgs_nil))))) (mss_cons (ms_for (passes_of rfl) (mi_range1 T.b_range (ma_cons (me_op op_pAdd (me_int) (me_call D__law_draw hr (takes_of (E := E) rfl rfl rfl rfl) (ma_cons (me_use 1) (ma_cons (me_int) (ma_nil))))) (ma_nil))) (mg_name 8 sc_law.nd) (mss_cons (ms_par 9 7 sc_law.nd (ma_cons (me_call D__law_draw hr (takes_of (E := E) rfl rfl rfl rfl) (ma_cons (me_use 1) (ma_cons (me_int) (ma_nil)))) (ma_cons (me_call D__law_draw hr (takes_of (E := E) rfl rfl rfl rfl) (ma_cons (me_use 1) (ma_cons (me_use 3) (ma_nil)))) (ma_nil)))) (mss_cons (ms_if (mt_cmp (op_pEq hr) (me_use 9) (me_int) (nomark _)) (mss_cons (ms_set 4 sc_law.nd (me_call D__law_book hr (takes_of (E := E) rfl rfl rfl rfl) (ma_cons (me_use 1) (ma_cons (me_use 3) (ma_nil))))) (mss_one (ms_expr (me_methT D_Clerk__change hT hr (takes_of (E := E) rfl rfl rfl rfl) (me_use 5) (ma_cons (me_use 4) (ma_nil)))))) (mss_one (ms_if (mt_cmp (op_pEq hr) (me_use 9) (me_int) (nomark _)) (mss_cons (ms_setR (me_tup (ma_nil)) (me_use 6) (me_use 7)) (mss_one (ms_expr (me_methT D_Clerk__lost hT hr (takes_of (E := E) rfl rfl rfl rfl) (me_use 5) (ma_cons (me_use 7) (ma_nil)))))) (mss_cons (ms_setR (me_op op_pAdd (me_ix (me_use 6) (me_use 7)) (me_tup (ma_cons (me_if (mt_cmp op_pGt (me_use 9) (me_int) (nomark _)) (me_int) (me_int)) (ma_nil)))) (me_use 6) (me_use 7)) (mss_one (ms_expr (me_methT D_Clerk__write hT hr (takes_of (E := E) rfl rfl rfl rfl) (me_use 5) (ma_cons (me_use 7) (ma_cons (me_ix (me_ix (me_use 6) (me_use 7)) (me_neg (me_int))) (ma_nil)))))))))) (mss_cons (ms_comp (N := ["_law_script", "_law_pool_here", "_law_ground_here", "_law_many", "_law_book_here", "_law_clerk", "_law_tapes", "_law_shelf", "_law_turn", "_law_way", "_law_due", "_law_b", "_law_told"]) (sc := defScope (topS 69)) 10 [("_law_b", 11)] sc_law.nd (mi_range1 T.b_range (ma_cons (me_int) (ma_nil))) (by decide +kernel) (fun _ _ _ _ _ => mgc_name 11 sc_law.nd) (fun _ _ _ _ _ => mts_one (fun _ => mt_cmp op_pGe (me_call D__law_least hr takes0 (ma_cons (me_call D__law_sums hr takes0 (ma_cons (me_use 4) (ma_cons (me_bl) (ma_cons (me_bty c_tuple T.b_tuple (ma_cons (me_use 6) (ma_nil))) (ma_cons (me_use 11) (ma_nil)))))) (ma_nil))) (me_ix (me_use 2) (me_int)) (nomark _))) (fun _ _ _ _ _ _ => me_use 11)) (mss_one (ms_if (mt_w (mw_or (mt_cmp (op_pNe hr) (me_meth0 D_Clerk__done hr (takes_of (E := E) rfl rfl rfl rfl) (me_use 5)) (me_bty c_tuple T.b_tuple (ma_cons (me_use 10) (ma_nil))) (nomark _)) (mw_or1 (mt_cmp (op_pNe hr) (me_callT D_done hT hr (takes_of (E := E) rfl rfl rfl rfl) (ma_cons (me_use 2) (ma_cons (me_use 4) (ma_cons (me_bl) (ma_cons (me_meth0 D_Clerk__weaving hr (takes_of (E := E) rfl rfl rfl rfl) (me_use 5)) (ma_nil)))))) (me_bty c_tuple T.b_tuple (ma_cons (me_use 10) (ma_nil))) (nomark _))))) (mss_one (ms_ret (me_bl))) (mss_nil))))))) (mss_cons (ms_set 12 sc_law.nd (me_callT D__law_anew hT hr (takes_of (E := E) rfl rfl rfl rfl) (ma_cons (me_use 1) (ma_cons (me_use 2) (ma_cons (me_use 4) (ma_cons (me_use 6) (ma_nil))))))) (mss_one (ms_ret (me_and (me_cmp (op_pEq hr) (me_use 12) (me_tup (ma_cons (me_meth0 D_Clerk__done hr (takes_of (E := E) rfl rfl rfl rfl) (me_use 5)) (ma_cons (me_meth0 D_Clerk__weaving hr (takes_of (E := E) rfl rfl rfl rfl) (me_use 5)) (ma_cons (me_meth0 D_Clerk__done hr (takes_of (E := E) rfl rfl rfl rfl) (me_use 5)) (ma_nil))))) (nomark _)) (me_one (me_cmp (op_pEq hr) (me_meth0 D_Clerk__weaving hr (takes_of (E := E) rfl rfl rfl rfl) (me_use 5)) (me_bty c_tuple T.b_tuple (ma_cons (me_use 6) (ma_nil))) (nomark _))))))))))))
end
end FS
set_option Elab.async false
set_option linter.all false
set_option maxRecDepth 100000
set_option maxHeartbeats 2000000
/-! FsEnd: the end of a law where defs of the program make generator expressions. -/
namespace LamX
open PySem PySem.Spec PyProof.Rows L2
theorem walk_ofAll {l : PySem.W.OpenLaw} {n k : Nat} {q : Program} {loose : List Str} {XP : (Str → Option Value) → Heap → Prop} {YP : World → Heap → Prop} {d : DefRec} {K : Params → PySem.W.Frag} {CX : World → CXT} {x : Str}
    (hn : l.most = some n) (hn2 : n ≤ sizeLine) (hdf : d.params.defaults = []) (hr : Room k callerA) (hY : ∀ (w : World) (h : Heap), YP w h → (K w.params).In h)
    (F : ∀ (w : World) (mg : Str → Option Value) (fa : Addr) (h : Heap), YP w h → (K w.params).In h → h.Ns mainGlobals mg → mg d.name = some (.ref fa) →
      (∀ (nm : Str) (f : Addr), ((recsOf q).any fun e => e.name == nm) = true → mg nm = some (.ref f) → OwnTab (K w.params) f h) → LawAtS l w (K w.params) (CX w) k n x mg fa h)
    (hCX : ∀ (w : World) (H : Hp) (s : Shared) (e : Value) (s' : Shared), CX w [] H s (fun _ _ _ => False) e s' → False) :
    PySem.W.WalkO q loose XP YP l.row.toRowW d [] (fun f vs => PySem.call f vs) := by
  refine Att.attach_callB hn hdf fun w s₀ s₁ mg mb fa o pm cd doc a vs ns G Y ho hd hcd hmg hobj hints hlen hbits hg => ?_
  have KX := hY w _ Y
  have own : ∀ (nm : Str) (f : Addr), ((recsOf q).any fun e => e.name == nm) = true → mg nm = some (.ref f) → OwnTab (K w.params) f s₁.heap := fun nm f hrec hf c P o1 fd1 e dd vs1 sl k1 k2 k3 k4 k5 => by
    obtain ⟨dL, hm, hn1⟩ := List.any_eq_true.mp hrec
    have hn2 : dL.name = nm := beq_iff_eq.mp hn1
    obtain ⟨a', o', fd', c', P', h1, h2, h3, h4, h5, h6⟩ := G.T.tab dL hm
    rw [hn2, hf] at h1
    cases h1
    have g1 := KX _ _ k1
    rw [g1] at h2
    cases h2
    rw [k2] at h3
    cases h3
    rw [k3] at h4
    cases h4
    obtain ⟨⟨oc, vc, e1, _, e3, e4⟩, hP⟩ := h6
    have g2 := KX _ _ k4
    rw [g2] at e1
    cases e1
    cases e3
    rw [k5] at e4
    cases e4
    exact hP
  obtain ⟨fd, cs, sp, hT, nT, C, hb, hsp, hF⟩ := F w mg fa _ Y KX G.T.g hmg own
  exact law_callTs KX G.T.g G.T.b G.T.builtins G.T.nolimit hg hT nT C G.T.bmain hobj hints (Nat.le_trans hlen hn2) hr hF hb (fun H hH hS => hsp H a ns hlen hbits hH hS) fun H e s' => hCX w H s₁ e s'
end LamX
set_option Elab.async false
set_option linter.all false
set_option maxRecDepth 100000
set_option maxHeartbeats 8000000
/-! K54End: the end of law_k54_clerk_beside_another (printed by our gen.py) -/
namespace FSEnd
open PySem PySem.Spec PyProof.Rows L2 FS
theorem all_mk {l : PySem.W.OpenLaw} {w : World} {K : PySem.W.Frag} {h : Heap} {mg : Str → Option Value} {fa : Addr} (X : K.In h) (G : h.Ns mainGlobals mg) (hfa : mg "law" = some (.ref fa))
    {qq : Program} (OT : ∀ (nm : Str) (f : Addr), ((PyProof.Rows.recsOf qq).any fun e => e.name == nm) = true → mg nm = some (.ref f) → LamX.OwnTab K f h)
    {fI : Addr} {odI anI : Option Addr} {slI : Array (Option Value)} {ocI kVI dcI pmI cdI ctI : Value}
    {C_BadBook : Addr} {nm_BadBook q_BadBook : Str} {N_BadBook : Addr} {bs_BadBook bm_BadBook : List Value} {sn_BadBook : List Str} {sub_BadBook : List Value} {ab_BadBook : Bool} {col_BadBook : Option Bool} {dd_BadBook : Option Addr} {m0_BadBook m1_BadBook m2_BadBook m3_BadBook m5_BadBook : Option Value}
    {C_BadGround : Addr} {nm_BadGround q_BadGround : Str} {N_BadGround : Addr} {bs_BadGround bm_BadGround : List Value} {sn_BadGround : List Str} {sub_BadGround : List Value} {ab_BadGround : Bool} {col_BadGround : Option Bool} {dd_BadGround : Option Addr} {m0_BadGround m1_BadGround m2_BadGround m3_BadGround m5_BadGround : Option Value}
    {C_BadMany : Addr} {nm_BadMany q_BadMany : Str} {N_BadMany : Addr} {bs_BadMany bm_BadMany : List Value} {sn_BadMany : List Str} {sub_BadMany : List Value} {ab_BadMany : Bool} {col_BadMany : Option Bool} {dd_BadMany : Option Addr} {m0_BadMany m1_BadMany m2_BadMany m3_BadMany m5_BadMany : Option Value}
    {C_BadNumber : Addr} {nm_BadNumber q_BadNumber : Str} {N_BadNumber : Addr} {bs_BadNumber bm_BadNumber : List Value} {sn_BadNumber : List Str} {sub_BadNumber : List Value} {ab_BadNumber : Bool} {col_BadNumber : Option Bool} {dd_BadNumber : Option Addr} {m0_BadNumber m1_BadNumber m2_BadNumber m3_BadNumber m5_BadNumber : Option Value}
    {C_BadShelf : Addr} {nm_BadShelf q_BadShelf : Str} {N_BadShelf : Addr} {bs_BadShelf bm_BadShelf : List Value} {sn_BadShelf : List Str} {sub_BadShelf : List Value} {ab_BadShelf : Bool} {col_BadShelf : Option Bool} {dd_BadShelf : Option Addr} {m0_BadShelf m1_BadShelf m2_BadShelf m3_BadShelf m5_BadShelf : Option Value}
    {C_BadTold : Addr} {nm_BadTold q_BadTold : Str} {N_BadTold : Addr} {bs_BadTold bm_BadTold : List Value} {sn_BadTold : List Str} {sub_BadTold : List Value} {ab_BadTold : Bool} {col_BadTold : Option Bool} {dd_BadTold : Option Addr} {m0_BadTold m1_BadTold m2_BadTold m3_BadTold m5_BadTold : Option Value}
    {C_BadWeaving : Addr} {nm_BadWeaving q_BadWeaving : Str} {N_BadWeaving : Addr} {bs_BadWeaving bm_BadWeaving : List Value} {sn_BadWeaving : List Str} {sub_BadWeaving : List Value} {ab_BadWeaving : Bool} {col_BadWeaving : Option Bool} {dd_BadWeaving : Option Addr} {m0_BadWeaving m1_BadWeaving m2_BadWeaving m3_BadWeaving m5_BadWeaving : Option Value}
    {C_Full : Addr} {nm_Full q_Full : Str} {N_Full : Addr} {bs_Full bm_Full : List Value} {sn_Full : List Str} {sub_Full : List Value} {ab_Full : Bool} {col_Full : Option Bool} {dd_Full : Option Addr} {m0_Full m1_Full m2_Full m3_Full m5_Full : Option Value}
    {C_TooMany : Addr} {nm_TooMany q_TooMany : Str} {N_TooMany : Addr} {bs_TooMany bm_TooMany : List Value} {sn_TooMany : List Str} {sub_TooMany : List Value} {ab_TooMany : Bool} {col_TooMany : Option Bool} {dd_TooMany : Option Addr} {m0_TooMany m1_TooMany m2_TooMany m3_TooMany m5_TooMany : Option Value}
    {f__law_pool : Addr} {od__law_pool an__law_pool : Option Addr} {sl__law_pool : Array (Option Value)} {oc__law_pool kV__law_pool dc__law_pool pm__law_pool ct__law_pool : Value} {cd__law_pool : Value}
    {f__law_draw : Addr} {od__law_draw an__law_draw : Option Addr} {sl__law_draw : Array (Option Value)} {oc__law_draw kV__law_draw dc__law_draw pm__law_draw ct__law_draw : Value} {cd__law_draw : Value}
    {f__law_pick : Addr} {od__law_pick an__law_pick : Option Addr} {sl__law_pick : Array (Option Value)} {oc__law_pick kV__law_pick dc__law_pick pm__law_pick ct__law_pick : Value} {cd__law_pick : Value}
    {f__law_turned : Addr} {od__law_turned an__law_turned : Option Addr} {sl__law_turned : Array (Option Value)} {oc__law_turned kV__law_turned dc__law_turned pm__law_turned ct__law_turned : Value} {cd__law_turned : Value}
    {f__law_ground : Addr} {od__law_ground an__law_ground : Option Addr} {sl__law_ground : Array (Option Value)} {oc__law_ground kV__law_ground dc__law_ground pm__law_ground ct__law_ground : Value} {cd__law_ground : Value}
    {f__law_bound : Addr} {od__law_bound an__law_bound : Option Addr} {sl__law_bound : Array (Option Value)} {oc__law_bound kV__law_bound dc__law_bound pm__law_bound ct__law_bound : Value} {cd__law_bound : Value}
    {f__law_row : Addr} {od__law_row an__law_row : Option Addr} {sl__law_row : Array (Option Value)} {oc__law_row kV__law_row dc__law_row pm__law_row ct__law_row : Value} {cd__law_row : Value}
    {f__law_book : Addr} {od__law_book an__law_book : Option Addr} {sl__law_book : Array (Option Value)} {oc__law_book kV__law_book dc__law_book pm__law_book ct__law_book : Value} {cd__law_book : Value}
    {f_is_whole : Addr} {od_is_whole an_is_whole : Option Addr} {sl_is_whole : Array (Option Value)} {oc_is_whole kV_is_whole dc_is_whole pm_is_whole ct_is_whole : Value} {cd_is_whole : Value}
    {f_is_prime : Addr} {od_is_prime an_is_prime : Option Addr} {sl_is_prime : Array (Option Value)} {oc_is_prime kV_is_prime dc_is_prime pm_is_prime ct_is_prime : Value} {cd_is_prime : Value}
    {f_are_points : Addr} {od_are_points an_are_points : Option Addr} {sl_are_points : Array (Option Value)} {oc_are_points kV_are_points dc_are_points pm_are_points ct_are_points : Value} {cd_are_points : Value}
    {f_made_ground : Addr} {od_made_ground an_made_ground : Option Addr} {sl_made_ground : Array (Option Value)} {oc_made_ground kV_made_ground dc_made_ground pm_made_ground ct_made_ground : Value} {cd_made_ground : Value}
    {f_is_below : Addr} {od_is_below an_is_below : Option Addr} {sl_is_below : Array (Option Value)} {oc_is_below kV_is_below dc_is_below pm_is_below ct_is_below : Value} {cd_is_below : Value}
    {f_is_bound : Addr} {od_is_bound an_is_bound : Option Addr} {sl_is_bound : Array (Option Value)} {oc_is_bound kV_is_bound dc_is_bound pm_is_bound ct_is_bound : Value} {cd_is_bound : Value}
    {f_is_fate : Addr} {od_is_fate an_is_fate : Option Addr} {sl_is_fate : Array (Option Value)} {oc_is_fate kV_is_fate dc_is_fate pm_is_fate ct_is_fate : Value} {cd_is_fate : Value}
    {f_is_row : Addr} {od_is_row an_is_row : Option Addr} {sl_is_row : Array (Option Value)} {oc_is_row kV_is_row dc_is_row pm_is_row ct_is_row : Value} {cd_is_row : Value}
    {f_made_book : Addr} {od_made_book an_made_book : Option Addr} {sl_made_book : Array (Option Value)} {oc_made_book kV_made_book dc_made_book pm_made_book ct_made_book : Value} {cd_made_book : Value}
    {f_shelves : Addr} {od_shelves an_shelves : Option Addr} {sl_shelves : Array (Option Value)} {oc_shelves kV_shelves dc_shelves pm_shelves ct_shelves : Value} {cd_shelves : Value}
    {f_Clerk____init__ : Addr} {od_Clerk____init__ an_Clerk____init__ : Option Addr} {sl_Clerk____init__ : Array (Option Value)} {oc_Clerk____init__ kV_Clerk____init__ dc_Clerk____init__ pm_Clerk____init__ ct_Clerk____init__ : Value} {cd_Clerk____init__ : Value}
    {f_met : Addr} {od_met an_met : Option Addr} {sl_met : Array (Option Value)} {oc_met kV_met dc_met pm_met ct_met : Value} {cd_met : Value}
    {f_without : Addr} {od_without an_without : Option Addr} {sl_without : Array (Option Value)} {oc_without kV_without dc_without pm_without ct_without : Value} {cd_without : Value}
    {f_greater : Addr} {od_greater an_greater : Option Addr} {sl_greater : Array (Option Value)} {oc_greater kV_greater dc_greater pm_greater ct_greater : Value} {cd_greater : Value}
    {f_lesser : Addr} {od_lesser an_lesser : Option Addr} {sl_lesser : Array (Option Value)} {oc_lesser kV_lesser dc_lesser pm_lesser ct_lesser : Value} {cd_lesser : Value}
    {f_missing : Addr} {od_missing an_missing : Option Addr} {sl_missing : Array (Option Value)} {oc_missing kV_missing dc_missing pm_missing ct_missing : Value} {cd_missing : Value}
    {f_head : Addr} {od_head an_head : Option Addr} {sl_head : Array (Option Value)} {oc_head kV_head dc_head pm_head ct_head : Value} {cd_head : Value}
    {f_heads : Addr} {od_heads an_heads : Option Addr} {sl_heads : Array (Option Value)} {oc_heads kV_heads dc_heads pm_heads ct_heads : Value} {cd_heads : Value}
    {f_unlike_heads : Addr} {od_unlike_heads an_unlike_heads : Option Addr} {sl_unlike_heads : Array (Option Value)} {oc_unlike_heads kV_unlike_heads dc_unlike_heads pm_unlike_heads ct_unlike_heads : Value} {cd_unlike_heads : Value}
    {f_counts_ahead : Addr} {od_counts_ahead an_counts_ahead : Option Addr} {sl_counts_ahead : Array (Option Value)} {oc_counts_ahead kV_counts_ahead dc_counts_ahead pm_counts_ahead ct_counts_ahead : Value} {cd_counts_ahead : Value}
    {f_safe_among : Addr} {od_safe_among an_safe_among : Option Addr} {sl_safe_among : Array (Option Value)} {oc_safe_among kV_safe_among dc_safe_among pm_safe_among ct_safe_among : Value} {cd_safe_among : Addr}
    {Pt_safe_among : Addr} {co_safe_among : Option Addr} {cv_safe_among : Array Value} {cs_safe_among : Array (Option Value)} {fi_safe_among : Str} {tf_safe_among tg_safe_among tt_safe_among : Tok} {fl_safe_among tn_safe_among : Int} {in_safe_among : Bool}
    {f_Clerk__safe_of : Addr} {od_Clerk__safe_of an_Clerk__safe_of : Option Addr} {sl_Clerk__safe_of : Array (Option Value)} {oc_Clerk__safe_of kV_Clerk__safe_of dc_Clerk__safe_of pm_Clerk__safe_of ct_Clerk__safe_of : Value} {cd_Clerk__safe_of : Addr}
    {f_Clerk__reckon_anew : Addr} {od_Clerk__reckon_anew an_Clerk__reckon_anew : Option Addr} {sl_Clerk__reckon_anew : Array (Option Value)} {oc_Clerk__reckon_anew kV_Clerk__reckon_anew dc_Clerk__reckon_anew pm_Clerk__reckon_anew ct_Clerk__reckon_anew : Value} {cd_Clerk__reckon_anew : Addr}
    {f_Clerk__change : Addr} {od_Clerk__change an_Clerk__change : Option Addr} {sl_Clerk__change : Array (Option Value)} {oc_Clerk__change kV_Clerk__change dc_Clerk__change pm_Clerk__change ct_Clerk__change : Value} {cd_Clerk__change : Addr}
    {f_is_number : Addr} {od_is_number an_is_number : Option Addr} {sl_is_number : Array (Option Value)} {oc_is_number kV_is_number dc_is_number pm_is_number ct_is_number : Value} {cd_is_number : Value}
    {f_Clerk__check_shelf : Addr} {od_Clerk__check_shelf an_Clerk__check_shelf : Option Addr} {sl_Clerk__check_shelf : Array (Option Value)} {oc_Clerk__check_shelf kV_Clerk__check_shelf dc_Clerk__check_shelf pm_Clerk__check_shelf ct_Clerk__check_shelf : Value} {cd_Clerk__check_shelf : Value}
    {f_Clerk__lost : Addr} {od_Clerk__lost an_Clerk__lost : Option Addr} {sl_Clerk__lost : Array (Option Value)} {oc_Clerk__lost kV_Clerk__lost dc_Clerk__lost pm_Clerk__lost ct_Clerk__lost : Value} {cd_Clerk__lost : Addr}
    {f_Clerk__write : Addr} {od_Clerk__write an_Clerk__write : Option Addr} {sl_Clerk__write : Array (Option Value)} {oc_Clerk__write kV_Clerk__write dc_Clerk__write pm_Clerk__write ct_Clerk__write : Value} {cd_Clerk__write : Addr}
    {f_Clerk__done : Addr} {od_Clerk__done an_Clerk__done : Option Addr} {sl_Clerk__done : Array (Option Value)} {oc_Clerk__done kV_Clerk__done dc_Clerk__done pm_Clerk__done ct_Clerk__done : Value} {cd_Clerk__done : Value}
    {f_check_told : Addr} {od_check_told an_check_told : Option Addr} {sl_check_told : Array (Option Value)} {oc_check_told kV_check_told dc_check_told pm_check_told ct_check_told : Value} {cd_check_told : Value}
    {f_is_tape : Addr} {od_is_tape an_is_tape : Option Addr} {sl_is_tape : Array (Option Value)} {oc_is_tape kV_is_tape dc_is_tape pm_is_tape ct_is_tape : Value} {cd_is_tape : Value}
    {f_made_weaving : Addr} {od_made_weaving an_made_weaving : Option Addr} {sl_made_weaving : Array (Option Value)} {oc_made_weaving kV_made_weaving dc_made_weaving pm_made_weaving ct_made_weaving : Value} {cd_made_weaving : Value}
    {f_checked : Addr} {od_checked an_checked : Option Addr} {sl_checked : Array (Option Value)} {oc_checked kV_checked dc_checked pm_checked ct_checked : Value} {cd_checked : Value}
    {f_done : Addr} {od_done an_done : Option Addr} {sl_done : Array (Option Value)} {oc_done kV_done dc_done pm_done ct_done : Value} {cd_done : Addr}
    {f_Clerk__weaving : Addr} {od_Clerk__weaving an_Clerk__weaving : Option Addr} {sl_Clerk__weaving : Array (Option Value)} {oc_Clerk__weaving kV_Clerk__weaving dc_Clerk__weaving pm_Clerk__weaving ct_Clerk__weaving : Value} {cd_Clerk__weaving : Value}
    {f__law_least : Addr} {od__law_least an__law_least : Option Addr} {sl__law_least : Array (Option Value)} {oc__law_least kV__law_least dc__law_least pm__law_least ct__law_least : Value} {cd__law_least : Value}
    {f__law_greater : Addr} {od__law_greater an__law_greater : Option Addr} {sl__law_greater : Array (Option Value)} {oc__law_greater kV__law_greater dc__law_greater pm__law_greater ct__law_greater : Value} {cd__law_greater : Value}
    {f__law_lesser : Addr} {od__law_lesser an__law_lesser : Option Addr} {sl__law_lesser : Array (Option Value)} {oc__law_lesser kV__law_lesser dc__law_lesser pm__law_lesser ct__law_lesser : Value} {cd__law_lesser : Value}
    {f__law_head : Addr} {od__law_head an__law_head : Option Addr} {sl__law_head : Array (Option Value)} {oc__law_head kV__law_head dc__law_head pm__law_head ct__law_head : Value} {cd__law_head : Value}
    {f__law_sums : Addr} {od__law_sums an__law_sums : Option Addr} {sl__law_sums : Array (Option Value)} {oc__law_sums kV__law_sums dc__law_sums pm__law_sums ct__law_sums : Value} {cd__law_sums : Value}
    {f__law_anew : Addr} {od__law_anew an__law_anew : Option Addr} {sl__law_anew : Array (Option Value)} {oc__law_anew kV__law_anew dc__law_anew pm__law_anew ct__law_anew : Value} {cd__law_anew : Addr}
    {f_law : Addr} {od_law an_law : Option Addr} {sl_law : Array (Option Value)} {oc_law kV_law dc_law pm_law ct_law : Value} {cd_law : Addr}
    {C_Clerk : Addr}
    {tk_MOST_BATCHES_safety : Tok}
    {tk_MOST_BATCHES_tapes : Tok}
    {tk_MOST_CELLS_moments : Tok}
    {tk_MOST_CELLS_tapes : Tok}
    {tk_MOST_FATE : Tok}
    {tk_MOST_NUMBERS : Tok}
    {tk_MOST_PRIME : Tok}
    {tk_MOST_ROWS : Tok}
    {tk_MOST_SHELVES_books : Tok}
    {tk_MOST_SHELVES_grounds : Tok}
    (aC_BadBook : PySem.W.nsIn K mainGlobals "BadBook" = some (some (.ref C_BadBook)))
    (lC_BadBook : K.lookup C_BadBook = some (excClassObj nm_BadBook q_BadBook C_BadBook N_BadBook bs_BadBook bm_BadBook true sn_BadBook sub_BadBook ab_BadBook col_BadBook dd_BadBook m0_BadBook m1_BadBook m2_BadBook m3_BadBook m5_BadBook "ValueError.__new__"))
    (rC_BadBook : PySem.HandSPX.refsVE bm_BadBook = true)
    (sa_BadBook : PySem.W.findIn K (.ref C_BadBook) "__setattr__" = some (some (.builtin "object.__setattr__")))
    (ga_BadBook : PySem.W.findIn K (.ref C_BadBook) "__getattribute__" = some (some (.builtin "BaseException.__getattribute__")))
    (gg_BadBook : PySem.W.findIn K (.ref C_BadBook) "__getattr__" = some none)
    (nw_BadBook : PySem.W.findIn K (.ref C_BadBook) "what" = some none)
    (kC_BadBook : PySem.W.keepIn K (.ref C_BadBook) = true)
    (eC_BadBook : PySem.W.subIn K (.ref C_BadBook) (.type "BaseException") = some true)
    (tC_BadBook : PySem.W.typeIn K (.ref C_BadBook) = some (.type "type"))
    (hC_BadBook : PySem.W.hasDictIn K C_BadBook = true)
    (iC_BadBook : PySem.W.findIn K (.ref C_BadBook) "__init__" = some (some (.ref fI)))
    (aC_BadGround : PySem.W.nsIn K mainGlobals "BadGround" = some (some (.ref C_BadGround)))
    (lC_BadGround : K.lookup C_BadGround = some (excClassObj nm_BadGround q_BadGround C_BadGround N_BadGround bs_BadGround bm_BadGround true sn_BadGround sub_BadGround ab_BadGround col_BadGround dd_BadGround m0_BadGround m1_BadGround m2_BadGround m3_BadGround m5_BadGround "ValueError.__new__"))
    (rC_BadGround : PySem.HandSPX.refsVE bm_BadGround = true)
    (sa_BadGround : PySem.W.findIn K (.ref C_BadGround) "__setattr__" = some (some (.builtin "object.__setattr__")))
    (ga_BadGround : PySem.W.findIn K (.ref C_BadGround) "__getattribute__" = some (some (.builtin "BaseException.__getattribute__")))
    (gg_BadGround : PySem.W.findIn K (.ref C_BadGround) "__getattr__" = some none)
    (nw_BadGround : PySem.W.findIn K (.ref C_BadGround) "what" = some none)
    (kC_BadGround : PySem.W.keepIn K (.ref C_BadGround) = true)
    (eC_BadGround : PySem.W.subIn K (.ref C_BadGround) (.type "BaseException") = some true)
    (tC_BadGround : PySem.W.typeIn K (.ref C_BadGround) = some (.type "type"))
    (hC_BadGround : PySem.W.hasDictIn K C_BadGround = true)
    (iC_BadGround : PySem.W.findIn K (.ref C_BadGround) "__init__" = some (some (.ref fI)))
    (aC_BadMany : PySem.W.nsIn K mainGlobals "BadMany" = some (some (.ref C_BadMany)))
    (lC_BadMany : K.lookup C_BadMany = some (excClassObj nm_BadMany q_BadMany C_BadMany N_BadMany bs_BadMany bm_BadMany true sn_BadMany sub_BadMany ab_BadMany col_BadMany dd_BadMany m0_BadMany m1_BadMany m2_BadMany m3_BadMany m5_BadMany "ValueError.__new__"))
    (rC_BadMany : PySem.HandSPX.refsVE bm_BadMany = true)
    (sa_BadMany : PySem.W.findIn K (.ref C_BadMany) "__setattr__" = some (some (.builtin "object.__setattr__")))
    (ga_BadMany : PySem.W.findIn K (.ref C_BadMany) "__getattribute__" = some (some (.builtin "BaseException.__getattribute__")))
    (gg_BadMany : PySem.W.findIn K (.ref C_BadMany) "__getattr__" = some none)
    (nw_BadMany : PySem.W.findIn K (.ref C_BadMany) "what" = some none)
    (kC_BadMany : PySem.W.keepIn K (.ref C_BadMany) = true)
    (eC_BadMany : PySem.W.subIn K (.ref C_BadMany) (.type "BaseException") = some true)
    (tC_BadMany : PySem.W.typeIn K (.ref C_BadMany) = some (.type "type"))
    (hC_BadMany : PySem.W.hasDictIn K C_BadMany = true)
    (iC_BadMany : PySem.W.findIn K (.ref C_BadMany) "__init__" = some (some (.ref fI)))
    (aC_BadNumber : PySem.W.nsIn K mainGlobals "BadNumber" = some (some (.ref C_BadNumber)))
    (lC_BadNumber : K.lookup C_BadNumber = some (excClassObj nm_BadNumber q_BadNumber C_BadNumber N_BadNumber bs_BadNumber bm_BadNumber true sn_BadNumber sub_BadNumber ab_BadNumber col_BadNumber dd_BadNumber m0_BadNumber m1_BadNumber m2_BadNumber m3_BadNumber m5_BadNumber "ValueError.__new__"))
    (rC_BadNumber : PySem.HandSPX.refsVE bm_BadNumber = true)
    (sa_BadNumber : PySem.W.findIn K (.ref C_BadNumber) "__setattr__" = some (some (.builtin "object.__setattr__")))
    (ga_BadNumber : PySem.W.findIn K (.ref C_BadNumber) "__getattribute__" = some (some (.builtin "BaseException.__getattribute__")))
    (gg_BadNumber : PySem.W.findIn K (.ref C_BadNumber) "__getattr__" = some none)
    (nw_BadNumber : PySem.W.findIn K (.ref C_BadNumber) "what" = some none)
    (kC_BadNumber : PySem.W.keepIn K (.ref C_BadNumber) = true)
    (eC_BadNumber : PySem.W.subIn K (.ref C_BadNumber) (.type "BaseException") = some true)
    (tC_BadNumber : PySem.W.typeIn K (.ref C_BadNumber) = some (.type "type"))
    (hC_BadNumber : PySem.W.hasDictIn K C_BadNumber = true)
    (iC_BadNumber : PySem.W.findIn K (.ref C_BadNumber) "__init__" = some (some (.ref fI)))
    (aC_BadShelf : PySem.W.nsIn K mainGlobals "BadShelf" = some (some (.ref C_BadShelf)))
    (lC_BadShelf : K.lookup C_BadShelf = some (excClassObj nm_BadShelf q_BadShelf C_BadShelf N_BadShelf bs_BadShelf bm_BadShelf true sn_BadShelf sub_BadShelf ab_BadShelf col_BadShelf dd_BadShelf m0_BadShelf m1_BadShelf m2_BadShelf m3_BadShelf m5_BadShelf "ValueError.__new__"))
    (rC_BadShelf : PySem.HandSPX.refsVE bm_BadShelf = true)
    (sa_BadShelf : PySem.W.findIn K (.ref C_BadShelf) "__setattr__" = some (some (.builtin "object.__setattr__")))
    (ga_BadShelf : PySem.W.findIn K (.ref C_BadShelf) "__getattribute__" = some (some (.builtin "BaseException.__getattribute__")))
    (gg_BadShelf : PySem.W.findIn K (.ref C_BadShelf) "__getattr__" = some none)
    (nw_BadShelf : PySem.W.findIn K (.ref C_BadShelf) "what" = some none)
    (kC_BadShelf : PySem.W.keepIn K (.ref C_BadShelf) = true)
    (eC_BadShelf : PySem.W.subIn K (.ref C_BadShelf) (.type "BaseException") = some true)
    (tC_BadShelf : PySem.W.typeIn K (.ref C_BadShelf) = some (.type "type"))
    (hC_BadShelf : PySem.W.hasDictIn K C_BadShelf = true)
    (iC_BadShelf : PySem.W.findIn K (.ref C_BadShelf) "__init__" = some (some (.ref fI)))
    (aC_BadTold : PySem.W.nsIn K mainGlobals "BadTold" = some (some (.ref C_BadTold)))
    (lC_BadTold : K.lookup C_BadTold = some (excClassObj nm_BadTold q_BadTold C_BadTold N_BadTold bs_BadTold bm_BadTold true sn_BadTold sub_BadTold ab_BadTold col_BadTold dd_BadTold m0_BadTold m1_BadTold m2_BadTold m3_BadTold m5_BadTold "ValueError.__new__"))
    (rC_BadTold : PySem.HandSPX.refsVE bm_BadTold = true)
    (sa_BadTold : PySem.W.findIn K (.ref C_BadTold) "__setattr__" = some (some (.builtin "object.__setattr__")))
    (ga_BadTold : PySem.W.findIn K (.ref C_BadTold) "__getattribute__" = some (some (.builtin "BaseException.__getattribute__")))
    (gg_BadTold : PySem.W.findIn K (.ref C_BadTold) "__getattr__" = some none)
    (nw_BadTold : PySem.W.findIn K (.ref C_BadTold) "what" = some none)
    (kC_BadTold : PySem.W.keepIn K (.ref C_BadTold) = true)
    (eC_BadTold : PySem.W.subIn K (.ref C_BadTold) (.type "BaseException") = some true)
    (tC_BadTold : PySem.W.typeIn K (.ref C_BadTold) = some (.type "type"))
    (hC_BadTold : PySem.W.hasDictIn K C_BadTold = true)
    (iC_BadTold : PySem.W.findIn K (.ref C_BadTold) "__init__" = some (some (.ref fI)))
    (aC_BadWeaving : PySem.W.nsIn K mainGlobals "BadWeaving" = some (some (.ref C_BadWeaving)))
    (lC_BadWeaving : K.lookup C_BadWeaving = some (excClassObj nm_BadWeaving q_BadWeaving C_BadWeaving N_BadWeaving bs_BadWeaving bm_BadWeaving true sn_BadWeaving sub_BadWeaving ab_BadWeaving col_BadWeaving dd_BadWeaving m0_BadWeaving m1_BadWeaving m2_BadWeaving m3_BadWeaving m5_BadWeaving "ValueError.__new__"))
    (rC_BadWeaving : PySem.HandSPX.refsVE bm_BadWeaving = true)
    (sa_BadWeaving : PySem.W.findIn K (.ref C_BadWeaving) "__setattr__" = some (some (.builtin "object.__setattr__")))
    (ga_BadWeaving : PySem.W.findIn K (.ref C_BadWeaving) "__getattribute__" = some (some (.builtin "BaseException.__getattribute__")))
    (gg_BadWeaving : PySem.W.findIn K (.ref C_BadWeaving) "__getattr__" = some none)
    (nw_BadWeaving : PySem.W.findIn K (.ref C_BadWeaving) "what" = some none)
    (kC_BadWeaving : PySem.W.keepIn K (.ref C_BadWeaving) = true)
    (eC_BadWeaving : PySem.W.subIn K (.ref C_BadWeaving) (.type "BaseException") = some true)
    (tC_BadWeaving : PySem.W.typeIn K (.ref C_BadWeaving) = some (.type "type"))
    (hC_BadWeaving : PySem.W.hasDictIn K C_BadWeaving = true)
    (iC_BadWeaving : PySem.W.findIn K (.ref C_BadWeaving) "__init__" = some (some (.ref fI)))
    (aC_Full : PySem.W.nsIn K mainGlobals "Full" = some (some (.ref C_Full)))
    (lC_Full : K.lookup C_Full = some (excClassObj nm_Full q_Full C_Full N_Full bs_Full bm_Full true sn_Full sub_Full ab_Full col_Full dd_Full m0_Full m1_Full m2_Full m3_Full m5_Full "ValueError.__new__"))
    (rC_Full : PySem.HandSPX.refsVE bm_Full = true)
    (sa_Full : PySem.W.findIn K (.ref C_Full) "__setattr__" = some (some (.builtin "object.__setattr__")))
    (ga_Full : PySem.W.findIn K (.ref C_Full) "__getattribute__" = some (some (.builtin "BaseException.__getattribute__")))
    (gg_Full : PySem.W.findIn K (.ref C_Full) "__getattr__" = some none)
    (nw_Full : PySem.W.findIn K (.ref C_Full) "what" = some none)
    (kC_Full : PySem.W.keepIn K (.ref C_Full) = true)
    (eC_Full : PySem.W.subIn K (.ref C_Full) (.type "BaseException") = some true)
    (tC_Full : PySem.W.typeIn K (.ref C_Full) = some (.type "type"))
    (hC_Full : PySem.W.hasDictIn K C_Full = true)
    (iC_Full : PySem.W.findIn K (.ref C_Full) "__init__" = some (some (.ref fI)))
    (aC_TooMany : PySem.W.nsIn K mainGlobals "TooMany" = some (some (.ref C_TooMany)))
    (lC_TooMany : K.lookup C_TooMany = some (excClassObj nm_TooMany q_TooMany C_TooMany N_TooMany bs_TooMany bm_TooMany true sn_TooMany sub_TooMany ab_TooMany col_TooMany dd_TooMany m0_TooMany m1_TooMany m2_TooMany m3_TooMany m5_TooMany "ValueError.__new__"))
    (rC_TooMany : PySem.HandSPX.refsVE bm_TooMany = true)
    (sa_TooMany : PySem.W.findIn K (.ref C_TooMany) "__setattr__" = some (some (.builtin "object.__setattr__")))
    (ga_TooMany : PySem.W.findIn K (.ref C_TooMany) "__getattribute__" = some (some (.builtin "BaseException.__getattribute__")))
    (gg_TooMany : PySem.W.findIn K (.ref C_TooMany) "__getattr__" = some none)
    (nw_TooMany : PySem.W.findIn K (.ref C_TooMany) "what" = some none)
    (kC_TooMany : PySem.W.keepIn K (.ref C_TooMany) = true)
    (eC_TooMany : PySem.W.subIn K (.ref C_TooMany) (.type "BaseException") = some true)
    (tC_TooMany : PySem.W.typeIn K (.ref C_TooMany) = some (.type "type"))
    (hC_TooMany : PySem.W.hasDictIn K C_TooMany = true)
    (iC_TooMany : PySem.W.findIn K (.ref C_TooMany) "__init__" = some (some (.ref fI)))
    (tI : PySem.W.typeIn K (.ref fI) = some (.type "function"))
    (lI : K.lookup fI = some ⟨ocI, odI, .func (PySem.W.fnOf "__init__" "Refused.__init__" (defArgs (inClass (topS 1) 0)) (defBody (inClass (topS 1) 0)) (defScope (inClass (topS 1) 0)) .none kVI dcI pmI anI cdI ctI), slI⟩)
    (cI : PySem.W.codeIn K cdI "Refused.__init__" = true)
    (kI : PySem.W.keepIn K (.ref fI) = true)
    (aC_Clerk : PySem.W.nsIn K mainGlobals "Clerk" = some (some (.ref C_Clerk)))
    (pg_Clerk : PySem.W.plainGet K C_Clerk Str.empty = true)
    (hd_Clerk : PySem.W.hasDictIn K C_Clerk = true)
    (po_Clerk : PySem.W.plainOver K C_Clerk = true)
    (sa_Clerk : PySem.W.findIn K (.ref C_Clerk) "__setattr__" = some (some (.builtin "object.__setattr__")))
    (mk_Clerk : PySem.W.makesIn K C_Clerk = true)
    (kC_Clerk : PySem.W.keepIn K (.ref C_Clerk) = true)
    (nf_Clerk_book : PySem.W.findIn K (.ref C_Clerk) "book" = some none)
    (nf_Clerk_ground : PySem.W.findIn K (.ref C_Clerk) "ground" = some none)
    (nf_Clerk_safe_now : PySem.W.findIn K (.ref C_Clerk) "safe_now" = some none)
    (nf_Clerk_tapes : PySem.W.findIn K (.ref C_Clerk) "tapes" = some none)
    (nf_Clerk_unsafe : PySem.W.findIn K (.ref C_Clerk) "unsafe" = some none)
    (a__law_pool : PySem.W.nsIn K mainGlobals "_law_pool" = some (some (.ref f__law_pool)))
    (l__law_pool : K.lookup f__law_pool = some ⟨oc__law_pool, od__law_pool, .func (PySem.W.fnOf "_law_pool" "_law_pool" (defArgs (topS 55)) (defBody (topS 55)) (defScope (topS 55)) .none kV__law_pool dc__law_pool pm__law_pool an__law_pool cd__law_pool ct__law_pool), sl__law_pool⟩)
    (c__law_pool : PySem.W.codeIn K cd__law_pool "_law_pool" = true)
    (k__law_pool : PySem.W.keepIn K (.ref f__law_pool) = true)
    (a__law_draw : PySem.W.nsIn K mainGlobals "_law_draw" = some (some (.ref f__law_draw)))
    (l__law_draw : K.lookup f__law_draw = some ⟨oc__law_draw, od__law_draw, .func (PySem.W.fnOf "_law_draw" "_law_draw" (defArgs (topS 56)) (defBody (topS 56)) (defScope (topS 56)) .none kV__law_draw dc__law_draw pm__law_draw an__law_draw cd__law_draw ct__law_draw), sl__law_draw⟩)
    (c__law_draw : PySem.W.codeIn K cd__law_draw "_law_draw" = true)
    (k__law_draw : PySem.W.keepIn K (.ref f__law_draw) = true)
    (a__law_pick : PySem.W.nsIn K mainGlobals "_law_pick" = some (some (.ref f__law_pick)))
    (l__law_pick : K.lookup f__law_pick = some ⟨oc__law_pick, od__law_pick, .func (PySem.W.fnOf "_law_pick" "_law_pick" (defArgs (topS 57)) (defBody (topS 57)) (defScope (topS 57)) .none kV__law_pick dc__law_pick pm__law_pick an__law_pick cd__law_pick ct__law_pick), sl__law_pick⟩)
    (c__law_pick : PySem.W.codeIn K cd__law_pick "_law_pick" = true)
    (k__law_pick : PySem.W.keepIn K (.ref f__law_pick) = true)
    (a__law_turned : PySem.W.nsIn K mainGlobals "_law_turned" = some (some (.ref f__law_turned)))
    (l__law_turned : K.lookup f__law_turned = some ⟨oc__law_turned, od__law_turned, .func (PySem.W.fnOf "_law_turned" "_law_turned" (defArgs (topS 58)) (defBody (topS 58)) (defScope (topS 58)) .none kV__law_turned dc__law_turned pm__law_turned an__law_turned cd__law_turned ct__law_turned), sl__law_turned⟩)
    (c__law_turned : PySem.W.codeIn K cd__law_turned "_law_turned" = true)
    (k__law_turned : PySem.W.keepIn K (.ref f__law_turned) = true)
    (a__law_ground : PySem.W.nsIn K mainGlobals "_law_ground" = some (some (.ref f__law_ground)))
    (l__law_ground : K.lookup f__law_ground = some ⟨oc__law_ground, od__law_ground, .func (PySem.W.fnOf "_law_ground" "_law_ground" (defArgs (topS 59)) (defBody (topS 59)) (defScope (topS 59)) .none kV__law_ground dc__law_ground pm__law_ground an__law_ground cd__law_ground ct__law_ground), sl__law_ground⟩)
    (c__law_ground : PySem.W.codeIn K cd__law_ground "_law_ground" = true)
    (k__law_ground : PySem.W.keepIn K (.ref f__law_ground) = true)
    (a__law_bound : PySem.W.nsIn K mainGlobals "_law_bound" = some (some (.ref f__law_bound)))
    (l__law_bound : K.lookup f__law_bound = some ⟨oc__law_bound, od__law_bound, .func (PySem.W.fnOf "_law_bound" "_law_bound" (defArgs (topS 60)) (defBody (topS 60)) (defScope (topS 60)) .none kV__law_bound dc__law_bound pm__law_bound an__law_bound cd__law_bound ct__law_bound), sl__law_bound⟩)
    (c__law_bound : PySem.W.codeIn K cd__law_bound "_law_bound" = true)
    (k__law_bound : PySem.W.keepIn K (.ref f__law_bound) = true)
    (a__law_row : PySem.W.nsIn K mainGlobals "_law_row" = some (some (.ref f__law_row)))
    (l__law_row : K.lookup f__law_row = some ⟨oc__law_row, od__law_row, .func (PySem.W.fnOf "_law_row" "_law_row" (defArgs (topS 61)) (defBody (topS 61)) (defScope (topS 61)) .none kV__law_row dc__law_row pm__law_row an__law_row cd__law_row ct__law_row), sl__law_row⟩)
    (c__law_row : PySem.W.codeIn K cd__law_row "_law_row" = true)
    (k__law_row : PySem.W.keepIn K (.ref f__law_row) = true)
    (a__law_book : PySem.W.nsIn K mainGlobals "_law_book" = some (some (.ref f__law_book)))
    (l__law_book : K.lookup f__law_book = some ⟨oc__law_book, od__law_book, .func (PySem.W.fnOf "_law_book" "_law_book" (defArgs (topS 62)) (defBody (topS 62)) (defScope (topS 62)) .none kV__law_book dc__law_book pm__law_book an__law_book cd__law_book ct__law_book), sl__law_book⟩)
    (c__law_book : PySem.W.codeIn K cd__law_book "_law_book" = true)
    (k__law_book : PySem.W.keepIn K (.ref f__law_book) = true)
    (a_is_whole : PySem.W.nsIn K mainGlobals "is_whole" = some (some (.ref f_is_whole)))
    (l_is_whole : K.lookup f_is_whole = some ⟨oc_is_whole, od_is_whole, .func (PySem.W.fnOf "is_whole" "is_whole" (defArgs (topS 13)) (defBody (topS 13)) (defScope (topS 13)) .none kV_is_whole dc_is_whole pm_is_whole an_is_whole cd_is_whole ct_is_whole), sl_is_whole⟩)
    (c_is_whole : PySem.W.codeIn K cd_is_whole "is_whole" = true)
    (k_is_whole : PySem.W.keepIn K (.ref f_is_whole) = true)
    (a_is_prime : PySem.W.nsIn K mainGlobals "is_prime" = some (some (.ref f_is_prime)))
    (l_is_prime : K.lookup f_is_prime = some ⟨oc_is_prime, od_is_prime, .func (PySem.W.fnOf "is_prime" "is_prime" (defArgs (topS 14)) (defBody (topS 14)) (defScope (topS 14)) .none kV_is_prime dc_is_prime pm_is_prime an_is_prime cd_is_prime ct_is_prime), sl_is_prime⟩)
    (c_is_prime : PySem.W.codeIn K cd_is_prime "is_prime" = true)
    (k_is_prime : PySem.W.keepIn K (.ref f_is_prime) = true)
    (a_are_points : PySem.W.nsIn K mainGlobals "are_points" = some (some (.ref f_are_points)))
    (l_are_points : K.lookup f_are_points = some ⟨oc_are_points, od_are_points, .func (PySem.W.fnOf "are_points" "are_points" (defArgs (topS 18)) (defBody (topS 18)) (defScope (topS 18)) .none kV_are_points dc_are_points pm_are_points an_are_points cd_are_points ct_are_points), sl_are_points⟩)
    (c_are_points : PySem.W.codeIn K cd_are_points "are_points" = true)
    (k_are_points : PySem.W.keepIn K (.ref f_are_points) = true)
    (a_made_ground : PySem.W.nsIn K mainGlobals "made_ground" = some (some (.ref f_made_ground)))
    (l_made_ground : K.lookup f_made_ground = some ⟨oc_made_ground, od_made_ground, .func (PySem.W.fnOf "made_ground" "made_ground" (defArgs (topS 19)) (defBody (topS 19)) (defScope (topS 19)) .none kV_made_ground dc_made_ground pm_made_ground an_made_ground cd_made_ground ct_made_ground), sl_made_ground⟩)
    (c_made_ground : PySem.W.codeIn K cd_made_ground "made_ground" = true)
    (k_made_ground : PySem.W.keepIn K (.ref f_made_ground) = true)
    (a_is_below : PySem.W.nsIn K mainGlobals "is_below" = some (some (.ref f_is_below)))
    (l_is_below : K.lookup f_is_below = some ⟨oc_is_below, od_is_below, .func (PySem.W.fnOf "is_below" "is_below" (defArgs (topS 24)) (defBody (topS 24)) (defScope (topS 24)) .none kV_is_below dc_is_below pm_is_below an_is_below cd_is_below ct_is_below), sl_is_below⟩)
    (c_is_below : PySem.W.codeIn K cd_is_below "is_below" = true)
    (k_is_below : PySem.W.keepIn K (.ref f_is_below) = true)
    (a_is_bound : PySem.W.nsIn K mainGlobals "is_bound" = some (some (.ref f_is_bound)))
    (l_is_bound : K.lookup f_is_bound = some ⟨oc_is_bound, od_is_bound, .func (PySem.W.fnOf "is_bound" "is_bound" (defArgs (topS 31)) (defBody (topS 31)) (defScope (topS 31)) .none kV_is_bound dc_is_bound pm_is_bound an_is_bound cd_is_bound ct_is_bound), sl_is_bound⟩)
    (c_is_bound : PySem.W.codeIn K cd_is_bound "is_bound" = true)
    (k_is_bound : PySem.W.keepIn K (.ref f_is_bound) = true)
    (a_is_fate : PySem.W.nsIn K mainGlobals "is_fate" = some (some (.ref f_is_fate)))
    (l_is_fate : K.lookup f_is_fate = some ⟨oc_is_fate, od_is_fate, .func (PySem.W.fnOf "is_fate" "is_fate" (defArgs (topS 32)) (defBody (topS 32)) (defScope (topS 32)) .none kV_is_fate dc_is_fate pm_is_fate an_is_fate cd_is_fate ct_is_fate), sl_is_fate⟩)
    (c_is_fate : PySem.W.codeIn K cd_is_fate "is_fate" = true)
    (k_is_fate : PySem.W.keepIn K (.ref f_is_fate) = true)
    (a_is_row : PySem.W.nsIn K mainGlobals "is_row" = some (some (.ref f_is_row)))
    (l_is_row : K.lookup f_is_row = some ⟨oc_is_row, od_is_row, .func (PySem.W.fnOf "is_row" "is_row" (defArgs (topS 33)) (defBody (topS 33)) (defScope (topS 33)) .none kV_is_row dc_is_row pm_is_row an_is_row cd_is_row ct_is_row), sl_is_row⟩)
    (c_is_row : PySem.W.codeIn K cd_is_row "is_row" = true)
    (k_is_row : PySem.W.keepIn K (.ref f_is_row) = true)
    (a_made_book : PySem.W.nsIn K mainGlobals "made_book" = some (some (.ref f_made_book)))
    (l_made_book : K.lookup f_made_book = some ⟨oc_made_book, od_made_book, .func (PySem.W.fnOf "made_book" "made_book" (defArgs (topS 34)) (defBody (topS 34)) (defScope (topS 34)) .none kV_made_book dc_made_book pm_made_book an_made_book cd_made_book ct_made_book), sl_made_book⟩)
    (c_made_book : PySem.W.codeIn K cd_made_book "made_book" = true)
    (k_made_book : PySem.W.keepIn K (.ref f_made_book) = true)
    (a_shelves : PySem.W.nsIn K mainGlobals "shelves" = some (some (.ref f_shelves)))
    (l_shelves : K.lookup f_shelves = some ⟨oc_shelves, od_shelves, .func (PySem.W.fnOf "shelves" "shelves" (defArgs (topS 20)) (defBody (topS 20)) (defScope (topS 20)) .none kV_shelves dc_shelves pm_shelves an_shelves cd_shelves ct_shelves), sl_shelves⟩)
    (c_shelves : PySem.W.codeIn K cd_shelves "shelves" = true)
    (k_shelves : PySem.W.keepIn K (.ref f_shelves) = true)
    (a_Clerk____init__ : PySem.W.findIn K (.ref C_Clerk) "__init__" = some (some (.ref f_Clerk____init__)))
    (i_Clerk____init__ : PySem.W.isFn K (.ref f_Clerk____init__) = true)
    (l_Clerk____init__ : K.lookup f_Clerk____init__ = some ⟨oc_Clerk____init__, od_Clerk____init__, .func (PySem.W.fnOf "__init__" "Clerk.__init__" (defArgs (inClass (topS 53) 0)) (defBody (inClass (topS 53) 0)) (defScope (inClass (topS 53) 0)) .none kV_Clerk____init__ dc_Clerk____init__ pm_Clerk____init__ an_Clerk____init__ cd_Clerk____init__ ct_Clerk____init__), sl_Clerk____init__⟩)
    (c_Clerk____init__ : PySem.W.codeIn K cd_Clerk____init__ "Clerk.__init__" = true)
    (k_Clerk____init__ : PySem.W.keepIn K (.ref f_Clerk____init__) = true)
    (a_met : PySem.W.nsIn K mainGlobals "met" = some (some (.ref f_met)))
    (l_met : K.lookup f_met = some ⟨oc_met, od_met, .func (PySem.W.fnOf "met" "met" (defArgs (topS 47)) (defBody (topS 47)) (defScope (topS 47)) .none kV_met dc_met pm_met an_met cd_met ct_met), sl_met⟩)
    (c_met : PySem.W.codeIn K cd_met "met" = true)
    (k_met : PySem.W.keepIn K (.ref f_met) = true)
    (a_without : PySem.W.nsIn K mainGlobals "without" = some (some (.ref f_without)))
    (l_without : K.lookup f_without = some ⟨oc_without, od_without, .func (PySem.W.fnOf "without" "without" (defArgs (topS 42)) (defBody (topS 42)) (defScope (topS 42)) .none kV_without dc_without pm_without an_without cd_without ct_without), sl_without⟩)
    (c_without : PySem.W.codeIn K cd_without "without" = true)
    (k_without : PySem.W.keepIn K (.ref f_without) = true)
    (a_greater : PySem.W.nsIn K mainGlobals "greater" = some (some (.ref f_greater)))
    (l_greater : K.lookup f_greater = some ⟨oc_greater, od_greater, .func (PySem.W.fnOf "greater" "greater" (defArgs (topS 40)) (defBody (topS 40)) (defScope (topS 40)) .none kV_greater dc_greater pm_greater an_greater cd_greater ct_greater), sl_greater⟩)
    (c_greater : PySem.W.codeIn K cd_greater "greater" = true)
    (k_greater : PySem.W.keepIn K (.ref f_greater) = true)
    (a_lesser : PySem.W.nsIn K mainGlobals "lesser" = some (some (.ref f_lesser)))
    (l_lesser : K.lookup f_lesser = some ⟨oc_lesser, od_lesser, .func (PySem.W.fnOf "lesser" "lesser" (defArgs (topS 39)) (defBody (topS 39)) (defScope (topS 39)) .none kV_lesser dc_lesser pm_lesser an_lesser cd_lesser ct_lesser), sl_lesser⟩)
    (c_lesser : PySem.W.codeIn K cd_lesser "lesser" = true)
    (k_lesser : PySem.W.keepIn K (.ref f_lesser) = true)
    (a_missing : PySem.W.nsIn K mainGlobals "missing" = some (some (.ref f_missing)))
    (l_missing : K.lookup f_missing = some ⟨oc_missing, od_missing, .func (PySem.W.fnOf "missing" "missing" (defArgs (topS 41)) (defBody (topS 41)) (defScope (topS 41)) .none kV_missing dc_missing pm_missing an_missing cd_missing ct_missing), sl_missing⟩)
    (c_missing : PySem.W.codeIn K cd_missing "missing" = true)
    (k_missing : PySem.W.keepIn K (.ref f_missing) = true)
    (a_head : PySem.W.nsIn K mainGlobals "head" = some (some (.ref f_head)))
    (l_head : K.lookup f_head = some ⟨oc_head, od_head, .func (PySem.W.fnOf "head" "head" (defArgs (topS 43)) (defBody (topS 43)) (defScope (topS 43)) .none kV_head dc_head pm_head an_head cd_head ct_head), sl_head⟩)
    (c_head : PySem.W.codeIn K cd_head "head" = true)
    (k_head : PySem.W.keepIn K (.ref f_head) = true)
    (a_heads : PySem.W.nsIn K mainGlobals "heads" = some (some (.ref f_heads)))
    (l_heads : K.lookup f_heads = some ⟨oc_heads, od_heads, .func (PySem.W.fnOf "heads" "heads" (defArgs (topS 44)) (defBody (topS 44)) (defScope (topS 44)) .none kV_heads dc_heads pm_heads an_heads cd_heads ct_heads), sl_heads⟩)
    (c_heads : PySem.W.codeIn K cd_heads "heads" = true)
    (k_heads : PySem.W.keepIn K (.ref f_heads) = true)
    (a_unlike_heads : PySem.W.nsIn K mainGlobals "unlike_heads" = some (some (.ref f_unlike_heads)))
    (l_unlike_heads : K.lookup f_unlike_heads = some ⟨oc_unlike_heads, od_unlike_heads, .func (PySem.W.fnOf "unlike_heads" "unlike_heads" (defArgs (topS 48)) (defBody (topS 48)) (defScope (topS 48)) .none kV_unlike_heads dc_unlike_heads pm_unlike_heads an_unlike_heads cd_unlike_heads ct_unlike_heads), sl_unlike_heads⟩)
    (c_unlike_heads : PySem.W.codeIn K cd_unlike_heads "unlike_heads" = true)
    (k_unlike_heads : PySem.W.keepIn K (.ref f_unlike_heads) = true)
    (a_counts_ahead : PySem.W.nsIn K mainGlobals "counts_ahead" = some (some (.ref f_counts_ahead)))
    (l_counts_ahead : K.lookup f_counts_ahead = some ⟨oc_counts_ahead, od_counts_ahead, .func (PySem.W.fnOf "counts_ahead" "counts_ahead" (defArgs (topS 45)) (defBody (topS 45)) (defScope (topS 45)) .none kV_counts_ahead dc_counts_ahead pm_counts_ahead an_counts_ahead cd_counts_ahead ct_counts_ahead), sl_counts_ahead⟩)
    (c_counts_ahead : PySem.W.codeIn K cd_counts_ahead "counts_ahead" = true)
    (k_counts_ahead : PySem.W.keepIn K (.ref f_counts_ahead) = true)
    (a_safe_among : PySem.W.nsIn K mainGlobals "safe_among" = some (some (.ref f_safe_among)))
    (l_safe_among : K.lookup f_safe_among = some ⟨oc_safe_among, od_safe_among, .func (PySem.W.fnOf "safe_among" "safe_among" (defArgs (topS 49)) (defBody (topS 49)) (defScope (topS 49)) .none kV_safe_among dc_safe_among pm_safe_among an_safe_among (.ref cd_safe_among) ct_safe_among), sl_safe_among⟩)
    (c_safe_among : PySem.W.codeIn K (.ref cd_safe_among) "safe_among" = true)
    (o_safe_among : K.lookup cd_safe_among = some ⟨.type "code", co_safe_among, .fields cv_safe_among, cs_safe_among⟩)
    (p11_safe_among : cv_safe_among[11]? = some (.ref Pt_safe_among))
    (e11_safe_among : cv_safe_among.getD 11 .none = .ref Pt_safe_among)
    (e18_safe_among : cv_safe_among.getD 18 .none = .str fi_safe_among tf_safe_among)
    (e7_safe_among : cv_safe_among.getD 7 .none = .int fl_safe_among tg_safe_among)
    (e9_safe_among : cv_safe_among.getD 9 .none = .bool in_safe_among)
    (e10_safe_among : cv_safe_among.getD 10 .none = .int tn_safe_among tt_safe_among)
    (ne_safe_among : cd_safe_among ≠ Pt_safe_among)
    (kn_safe_among : K.lookup Pt_safe_among = none)
    (rec_safe_among : ((PyProof.Rows.recsOf qq).any fun e => e.name == "safe_among") = true)
    (k_safe_among : PySem.W.keepIn K (.ref f_safe_among) = true)
    (a_Clerk__safe_of : PySem.W.findIn K (.ref C_Clerk) "safe_of" = some (some (.ref f_Clerk__safe_of)))
    (i_Clerk__safe_of : PySem.W.isFn K (.ref f_Clerk__safe_of) = true)
    (l_Clerk__safe_of : K.lookup f_Clerk__safe_of = some ⟨oc_Clerk__safe_of, od_Clerk__safe_of, .func (PySem.W.fnOf "safe_of" "Clerk.safe_of" (defArgs (inClass (topS 53) 2)) (defBody (inClass (topS 53) 2)) (defScope (inClass (topS 53) 2)) .none kV_Clerk__safe_of dc_Clerk__safe_of pm_Clerk__safe_of an_Clerk__safe_of (.ref cd_Clerk__safe_of) ct_Clerk__safe_of), sl_Clerk__safe_of⟩)
    (c_Clerk__safe_of : PySem.W.codeIn K (.ref cd_Clerk__safe_of) "Clerk.safe_of" = true)
    (k_Clerk__safe_of : PySem.W.keepIn K (.ref f_Clerk__safe_of) = true)
    (a_Clerk__reckon_anew : PySem.W.findIn K (.ref C_Clerk) "reckon_anew" = some (some (.ref f_Clerk__reckon_anew)))
    (i_Clerk__reckon_anew : PySem.W.isFn K (.ref f_Clerk__reckon_anew) = true)
    (l_Clerk__reckon_anew : K.lookup f_Clerk__reckon_anew = some ⟨oc_Clerk__reckon_anew, od_Clerk__reckon_anew, .func (PySem.W.fnOf "reckon_anew" "Clerk.reckon_anew" (defArgs (inClass (topS 53) 3)) (defBody (inClass (topS 53) 3)) (defScope (inClass (topS 53) 3)) .none kV_Clerk__reckon_anew dc_Clerk__reckon_anew pm_Clerk__reckon_anew an_Clerk__reckon_anew (.ref cd_Clerk__reckon_anew) ct_Clerk__reckon_anew), sl_Clerk__reckon_anew⟩)
    (c_Clerk__reckon_anew : PySem.W.codeIn K (.ref cd_Clerk__reckon_anew) "Clerk.reckon_anew" = true)
    (k_Clerk__reckon_anew : PySem.W.keepIn K (.ref f_Clerk__reckon_anew) = true)
    (a_Clerk__change : PySem.W.findIn K (.ref C_Clerk) "change" = some (some (.ref f_Clerk__change)))
    (i_Clerk__change : PySem.W.isFn K (.ref f_Clerk__change) = true)
    (l_Clerk__change : K.lookup f_Clerk__change = some ⟨oc_Clerk__change, od_Clerk__change, .func (PySem.W.fnOf "change" "Clerk.change" (defArgs (inClass (topS 53) 7)) (defBody (inClass (topS 53) 7)) (defScope (inClass (topS 53) 7)) .none kV_Clerk__change dc_Clerk__change pm_Clerk__change an_Clerk__change (.ref cd_Clerk__change) ct_Clerk__change), sl_Clerk__change⟩)
    (c_Clerk__change : PySem.W.codeIn K (.ref cd_Clerk__change) "Clerk.change" = true)
    (k_Clerk__change : PySem.W.keepIn K (.ref f_Clerk__change) = true)
    (a_is_number : PySem.W.nsIn K mainGlobals "is_number" = some (some (.ref f_is_number)))
    (l_is_number : K.lookup f_is_number = some ⟨oc_is_number, od_is_number, .func (PySem.W.fnOf "is_number" "is_number" (defArgs (topS 37)) (defBody (topS 37)) (defScope (topS 37)) .none kV_is_number dc_is_number pm_is_number an_is_number cd_is_number ct_is_number), sl_is_number⟩)
    (c_is_number : PySem.W.codeIn K cd_is_number "is_number" = true)
    (k_is_number : PySem.W.keepIn K (.ref f_is_number) = true)
    (a_Clerk__check_shelf : PySem.W.findIn K (.ref C_Clerk) "check_shelf" = some (some (.ref f_Clerk__check_shelf)))
    (i_Clerk__check_shelf : PySem.W.isFn K (.ref f_Clerk__check_shelf) = true)
    (l_Clerk__check_shelf : K.lookup f_Clerk__check_shelf = some ⟨oc_Clerk__check_shelf, od_Clerk__check_shelf, .func (PySem.W.fnOf "check_shelf" "Clerk.check_shelf" (defArgs (inClass (topS 53) 1)) (defBody (inClass (topS 53) 1)) (defScope (inClass (topS 53) 1)) .none kV_Clerk__check_shelf dc_Clerk__check_shelf pm_Clerk__check_shelf an_Clerk__check_shelf cd_Clerk__check_shelf ct_Clerk__check_shelf), sl_Clerk__check_shelf⟩)
    (c_Clerk__check_shelf : PySem.W.codeIn K cd_Clerk__check_shelf "Clerk.check_shelf" = true)
    (k_Clerk__check_shelf : PySem.W.keepIn K (.ref f_Clerk__check_shelf) = true)
    (a_Clerk__lost : PySem.W.findIn K (.ref C_Clerk) "lost" = some (some (.ref f_Clerk__lost)))
    (i_Clerk__lost : PySem.W.isFn K (.ref f_Clerk__lost) = true)
    (l_Clerk__lost : K.lookup f_Clerk__lost = some ⟨oc_Clerk__lost, od_Clerk__lost, .func (PySem.W.fnOf "lost" "Clerk.lost" (defArgs (inClass (topS 53) 8)) (defBody (inClass (topS 53) 8)) (defScope (inClass (topS 53) 8)) .none kV_Clerk__lost dc_Clerk__lost pm_Clerk__lost an_Clerk__lost (.ref cd_Clerk__lost) ct_Clerk__lost), sl_Clerk__lost⟩)
    (c_Clerk__lost : PySem.W.codeIn K (.ref cd_Clerk__lost) "Clerk.lost" = true)
    (k_Clerk__lost : PySem.W.keepIn K (.ref f_Clerk__lost) = true)
    (a_Clerk__write : PySem.W.findIn K (.ref C_Clerk) "write" = some (some (.ref f_Clerk__write)))
    (i_Clerk__write : PySem.W.isFn K (.ref f_Clerk__write) = true)
    (l_Clerk__write : K.lookup f_Clerk__write = some ⟨oc_Clerk__write, od_Clerk__write, .func (PySem.W.fnOf "write" "Clerk.write" (defArgs (inClass (topS 53) 4)) (defBody (inClass (topS 53) 4)) (defScope (inClass (topS 53) 4)) .none kV_Clerk__write dc_Clerk__write pm_Clerk__write an_Clerk__write (.ref cd_Clerk__write) ct_Clerk__write), sl_Clerk__write⟩)
    (c_Clerk__write : PySem.W.codeIn K (.ref cd_Clerk__write) "Clerk.write" = true)
    (k_Clerk__write : PySem.W.keepIn K (.ref f_Clerk__write) = true)
    (a_Clerk__done : PySem.W.findIn K (.ref C_Clerk) "done" = some (some (.ref f_Clerk__done)))
    (i_Clerk__done : PySem.W.isFn K (.ref f_Clerk__done) = true)
    (l_Clerk__done : K.lookup f_Clerk__done = some ⟨oc_Clerk__done, od_Clerk__done, .func (PySem.W.fnOf "done" "Clerk.done" (defArgs (inClass (topS 53) 6)) (defBody (inClass (topS 53) 6)) (defScope (inClass (topS 53) 6)) .none kV_Clerk__done dc_Clerk__done pm_Clerk__done an_Clerk__done cd_Clerk__done ct_Clerk__done), sl_Clerk__done⟩)
    (c_Clerk__done : PySem.W.codeIn K cd_Clerk__done "Clerk.done" = true)
    (k_Clerk__done : PySem.W.keepIn K (.ref f_Clerk__done) = true)
    (a_check_told : PySem.W.nsIn K mainGlobals "check_told" = some (some (.ref f_check_told)))
    (l_check_told : K.lookup f_check_told = some ⟨oc_check_told, od_check_told, .func (PySem.W.fnOf "check_told" "check_told" (defArgs (topS 38)) (defBody (topS 38)) (defScope (topS 38)) .none kV_check_told dc_check_told pm_check_told an_check_told cd_check_told ct_check_told), sl_check_told⟩)
    (c_check_told : PySem.W.codeIn K cd_check_told "check_told" = true)
    (k_check_told : PySem.W.keepIn K (.ref f_check_told) = true)
    (a_is_tape : PySem.W.nsIn K mainGlobals "is_tape" = some (some (.ref f_is_tape)))
    (l_is_tape : K.lookup f_is_tape = some ⟨oc_is_tape, od_is_tape, .func (PySem.W.fnOf "is_tape" "is_tape" (defArgs (topS 25)) (defBody (topS 25)) (defScope (topS 25)) .none kV_is_tape dc_is_tape pm_is_tape an_is_tape cd_is_tape ct_is_tape), sl_is_tape⟩)
    (c_is_tape : PySem.W.codeIn K cd_is_tape "is_tape" = true)
    (k_is_tape : PySem.W.keepIn K (.ref f_is_tape) = true)
    (a_made_weaving : PySem.W.nsIn K mainGlobals "made_weaving" = some (some (.ref f_made_weaving)))
    (l_made_weaving : K.lookup f_made_weaving = some ⟨oc_made_weaving, od_made_weaving, .func (PySem.W.fnOf "made_weaving" "made_weaving" (defArgs (topS 26)) (defBody (topS 26)) (defScope (topS 26)) .none kV_made_weaving dc_made_weaving pm_made_weaving an_made_weaving cd_made_weaving ct_made_weaving), sl_made_weaving⟩)
    (c_made_weaving : PySem.W.codeIn K cd_made_weaving "made_weaving" = true)
    (k_made_weaving : PySem.W.keepIn K (.ref f_made_weaving) = true)
    (a_checked : PySem.W.nsIn K mainGlobals "checked" = some (some (.ref f_checked)))
    (l_checked : K.lookup f_checked = some ⟨oc_checked, od_checked, .func (PySem.W.fnOf "checked" "checked" (defArgs (topS 46)) (defBody (topS 46)) (defScope (topS 46)) .none kV_checked dc_checked pm_checked an_checked cd_checked ct_checked), sl_checked⟩)
    (c_checked : PySem.W.codeIn K cd_checked "checked" = true)
    (k_checked : PySem.W.keepIn K (.ref f_checked) = true)
    (a_done : PySem.W.nsIn K mainGlobals "done" = some (some (.ref f_done)))
    (l_done : K.lookup f_done = some ⟨oc_done, od_done, .func (PySem.W.fnOf "done" "done" (defArgs (topS 50)) (defBody (topS 50)) (defScope (topS 50)) .none kV_done dc_done pm_done an_done (.ref cd_done) ct_done), sl_done⟩)
    (c_done : PySem.W.codeIn K (.ref cd_done) "done" = true)
    (k_done : PySem.W.keepIn K (.ref f_done) = true)
    (a_Clerk__weaving : PySem.W.findIn K (.ref C_Clerk) "weaving" = some (some (.ref f_Clerk__weaving)))
    (i_Clerk__weaving : PySem.W.isFn K (.ref f_Clerk__weaving) = true)
    (l_Clerk__weaving : K.lookup f_Clerk__weaving = some ⟨oc_Clerk__weaving, od_Clerk__weaving, .func (PySem.W.fnOf "weaving" "Clerk.weaving" (defArgs (inClass (topS 53) 5)) (defBody (inClass (topS 53) 5)) (defScope (inClass (topS 53) 5)) .none kV_Clerk__weaving dc_Clerk__weaving pm_Clerk__weaving an_Clerk__weaving cd_Clerk__weaving ct_Clerk__weaving), sl_Clerk__weaving⟩)
    (c_Clerk__weaving : PySem.W.codeIn K cd_Clerk__weaving "Clerk.weaving" = true)
    (k_Clerk__weaving : PySem.W.keepIn K (.ref f_Clerk__weaving) = true)
    (a__law_least : PySem.W.nsIn K mainGlobals "_law_least" = some (some (.ref f__law_least)))
    (l__law_least : K.lookup f__law_least = some ⟨oc__law_least, od__law_least, .func (PySem.W.fnOf "_law_least" "_law_least" (defArgs (topS 67)) (defBody (topS 67)) (defScope (topS 67)) .none kV__law_least dc__law_least pm__law_least an__law_least cd__law_least ct__law_least), sl__law_least⟩)
    (c__law_least : PySem.W.codeIn K cd__law_least "_law_least" = true)
    (k__law_least : PySem.W.keepIn K (.ref f__law_least) = true)
    (a__law_greater : PySem.W.nsIn K mainGlobals "_law_greater" = some (some (.ref f__law_greater)))
    (l__law_greater : K.lookup f__law_greater = some ⟨oc__law_greater, od__law_greater, .func (PySem.W.fnOf "_law_greater" "_law_greater" (defArgs (topS 63)) (defBody (topS 63)) (defScope (topS 63)) .none kV__law_greater dc__law_greater pm__law_greater an__law_greater cd__law_greater ct__law_greater), sl__law_greater⟩)
    (c__law_greater : PySem.W.codeIn K cd__law_greater "_law_greater" = true)
    (k__law_greater : PySem.W.keepIn K (.ref f__law_greater) = true)
    (a__law_lesser : PySem.W.nsIn K mainGlobals "_law_lesser" = some (some (.ref f__law_lesser)))
    (l__law_lesser : K.lookup f__law_lesser = some ⟨oc__law_lesser, od__law_lesser, .func (PySem.W.fnOf "_law_lesser" "_law_lesser" (defArgs (topS 64)) (defBody (topS 64)) (defScope (topS 64)) .none kV__law_lesser dc__law_lesser pm__law_lesser an__law_lesser cd__law_lesser ct__law_lesser), sl__law_lesser⟩)
    (c__law_lesser : PySem.W.codeIn K cd__law_lesser "_law_lesser" = true)
    (k__law_lesser : PySem.W.keepIn K (.ref f__law_lesser) = true)
    (a__law_head : PySem.W.nsIn K mainGlobals "_law_head" = some (some (.ref f__law_head)))
    (l__law_head : K.lookup f__law_head = some ⟨oc__law_head, od__law_head, .func (PySem.W.fnOf "_law_head" "_law_head" (defArgs (topS 65)) (defBody (topS 65)) (defScope (topS 65)) .none kV__law_head dc__law_head pm__law_head an__law_head cd__law_head ct__law_head), sl__law_head⟩)
    (c__law_head : PySem.W.codeIn K cd__law_head "_law_head" = true)
    (k__law_head : PySem.W.keepIn K (.ref f__law_head) = true)
    (a__law_sums : PySem.W.nsIn K mainGlobals "_law_sums" = some (some (.ref f__law_sums)))
    (l__law_sums : K.lookup f__law_sums = some ⟨oc__law_sums, od__law_sums, .func (PySem.W.fnOf "_law_sums" "_law_sums" (defArgs (topS 66)) (defBody (topS 66)) (defScope (topS 66)) .none kV__law_sums dc__law_sums pm__law_sums an__law_sums cd__law_sums ct__law_sums), sl__law_sums⟩)
    (c__law_sums : PySem.W.codeIn K cd__law_sums "_law_sums" = true)
    (k__law_sums : PySem.W.keepIn K (.ref f__law_sums) = true)
    (a__law_anew : PySem.W.nsIn K mainGlobals "_law_anew" = some (some (.ref f__law_anew)))
    (l__law_anew : K.lookup f__law_anew = some ⟨oc__law_anew, od__law_anew, .func (PySem.W.fnOf "_law_anew" "_law_anew" (defArgs (topS 68)) (defBody (topS 68)) (defScope (topS 68)) .none kV__law_anew dc__law_anew pm__law_anew an__law_anew (.ref cd__law_anew) ct__law_anew), sl__law_anew⟩)
    (c__law_anew : PySem.W.codeIn K (.ref cd__law_anew) "_law_anew" = true)
    (k__law_anew : PySem.W.keepIn K (.ref f__law_anew) = true)
    (a_law : PySem.W.nsIn K mainGlobals "law" = some (some (.ref f_law)))
    (l_law : K.lookup f_law = some ⟨oc_law, od_law, .func (PySem.W.fnOf "law" "law" (defArgs (topS 69)) (defBody (topS 69)) (defScope (topS 69)) .none kV_law dc_law pm_law an_law (.ref cd_law) ct_law), sl_law⟩)
    (c_law : PySem.W.codeIn K (.ref cd_law) "law" = true)
    (k_law : PySem.W.keepIn K (.ref f_law) = true)
    (b_bool : PySem.W.nsIn K mainGlobals "bool" = some none)
    (b_enumerate : PySem.W.nsIn K mainGlobals "enumerate" = some none)
    (b_int : PySem.W.nsIn K mainGlobals "int" = some none)
    (b_isinstance : PySem.W.nsIn K mainGlobals "isinstance" = some none)
    (b_len : PySem.W.nsIn K mainGlobals "len" = some none)
    (b_list : PySem.W.nsIn K mainGlobals "list" = some none)
    (b_max : PySem.W.nsIn K mainGlobals "max" = some none)
    (b_min : PySem.W.nsIn K mainGlobals "min" = some none)
    (b_range : PySem.W.nsIn K mainGlobals "range" = some none)
    (b_sorted : PySem.W.nsIn K mainGlobals "sorted" = some none)
    (b_sum : PySem.W.nsIn K mainGlobals "sum" = some none)
    (b_tuple : PySem.W.nsIn K mainGlobals "tuple" = some none)
    (v_MOST_BATCHES_safety : PySem.W.nsIn K mainGlobals "MOST_BATCHES_safety" = some (some (.int 64 tk_MOST_BATCHES_safety)))
    (v_MOST_BATCHES_tapes : PySem.W.nsIn K mainGlobals "MOST_BATCHES_tapes" = some (some (.int 64 tk_MOST_BATCHES_tapes)))
    (v_MOST_CELLS_moments : PySem.W.nsIn K mainGlobals "MOST_CELLS_moments" = some (some (.int 1024 tk_MOST_CELLS_moments)))
    (v_MOST_CELLS_tapes : PySem.W.nsIn K mainGlobals "MOST_CELLS_tapes" = some (some (.int 1024 tk_MOST_CELLS_tapes)))
    (v_MOST_FATE : PySem.W.nsIn K mainGlobals "MOST_FATE" = some (some (.int 64 tk_MOST_FATE)))
    (v_MOST_NUMBERS : PySem.W.nsIn K mainGlobals "MOST_NUMBERS" = some (some (.int 12 tk_MOST_NUMBERS)))
    (v_MOST_PRIME : PySem.W.nsIn K mainGlobals "MOST_PRIME" = some (some (.int 65521 tk_MOST_PRIME)))
    (v_MOST_ROWS : PySem.W.nsIn K mainGlobals "MOST_ROWS" = some (some (.int 24 tk_MOST_ROWS)))
    (v_MOST_SHELVES_books : PySem.W.nsIn K mainGlobals "MOST_SHELVES_books" = some (some (.int 8 tk_MOST_SHELVES_books)))
    (v_MOST_SHELVES_grounds : PySem.W.nsIn K mainGlobals "MOST_SHELVES_grounds" = some (some (.int 8 tk_MOST_SHELVES_grounds))) :
    LamX.LawAtS l w K (L2.CX l.prog w) 10 63 "_law_script" mg fa h := by
  have e := hfa.symm.trans (PySem.W.mg_of X G a_law)
  cases e
  have T : Tx K mg := ⟨PySem.W.mg_none_of X G b_bool, PySem.W.mg_none_of X G b_enumerate, PySem.W.mg_none_of X G b_int, PySem.W.mg_none_of X G b_isinstance, PySem.W.mg_none_of X G b_len, PySem.W.mg_none_of X G b_list, PySem.W.mg_none_of X G b_max, PySem.W.mg_none_of X G b_min, PySem.W.mg_none_of X G b_range, PySem.W.mg_none_of X G b_sorted, PySem.W.mg_none_of X G b_sum, PySem.W.mg_none_of X G b_tuple, ⟨_, PySem.W.mg_of X G v_MOST_BATCHES_safety⟩, ⟨_, PySem.W.mg_of X G v_MOST_BATCHES_tapes⟩, ⟨_, PySem.W.mg_of X G v_MOST_CELLS_moments⟩, ⟨_, PySem.W.mg_of X G v_MOST_CELLS_tapes⟩, ⟨_, PySem.W.mg_of X G v_MOST_FATE⟩, ⟨_, PySem.W.mg_of X G v_MOST_NUMBERS⟩, ⟨_, PySem.W.mg_of X G v_MOST_PRIME⟩, ⟨_, PySem.W.mg_of X G v_MOST_ROWS⟩, ⟨_, PySem.W.mg_of X G v_MOST_SHELVES_books⟩, ⟨_, PySem.W.mg_of X G v_MOST_SHELVES_grounds⟩⟩
  have F__law_pool := fun_mk (st := topS 55) l__law_pool c__law_pool k__law_pool
  have B__law_pool := F__law_pool.binds (ps := ["_law_script"]) fun _ _ _ _ _ _ us hl => match us, hl with | [_], _ => rfl
  have F__law_draw := fun_mk (st := topS 56) l__law_draw c__law_draw k__law_draw
  have B__law_draw := F__law_draw.binds (ps := ["_law_pool_here", "_law_many"]) fun _ _ _ _ _ _ us hl => match us, hl with | [_, _], _ => rfl
  have F__law_pick := fun_mk (st := topS 57) l__law_pick c__law_pick k__law_pick
  have B__law_pick := F__law_pick.binds (ps := ["_law_pool_here", "_law_things"]) fun _ _ _ _ _ _ us hl => match us, hl with | [_, _], _ => rfl
  have F__law_turned := fun_mk (st := topS 58) l__law_turned c__law_turned k__law_turned
  have B__law_turned := F__law_turned.binds (ps := ["_law_pool_here", "_law_many"]) fun _ _ _ _ _ _ us hl => match us, hl with | [_, _], _ => rfl
  have F__law_ground := fun_mk (st := topS 59) l__law_ground c__law_ground k__law_ground
  have B__law_ground := F__law_ground.binds (ps := ["_law_pool_here", "_law_most", "_law_many"]) fun _ _ _ _ _ _ us hl => match us, hl with | [_, _, _], _ => rfl
  have F__law_bound := fun_mk (st := topS 60) l__law_bound c__law_bound k__law_bound
  have B__law_bound := F__law_bound.binds (ps := ["_law_pool_here"]) fun _ _ _ _ _ _ us hl => match us, hl with | [_], _ => rfl
  have F__law_row := fun_mk (st := topS 61) l__law_row c__law_row k__law_row
  have B__law_row := F__law_row.binds (ps := ["_law_pool_here", "_law_many"]) fun _ _ _ _ _ _ us hl => match us, hl with | [_, _], _ => rfl
  have F__law_book := fun_mk (st := topS 62) l__law_book c__law_book k__law_book
  have B__law_book := F__law_book.binds (ps := ["_law_pool_here", "_law_many"]) fun _ _ _ _ _ _ us hl => match us, hl with | [_, _], _ => rfl
  have F_is_whole := fun_mk (st := topS 13) l_is_whole c_is_whole k_is_whole
  have B_is_whole := F_is_whole.binds (ps := ["thing", "low", "high"]) fun _ _ _ _ _ _ us hl => match us, hl with | [_, _, _], _ => rfl
  have F_is_prime := fun_mk (st := topS 14) l_is_prime c_is_prime k_is_prime
  have B_is_prime := F_is_prime.binds (ps := ["n"]) fun _ _ _ _ _ _ us hl => match us, hl with | [_], _ => rfl
  have F_are_points := fun_mk (st := topS 18) l_are_points c_are_points k_are_points
  have B_are_points := F_are_points.binds (ps := ["p", "thing"]) fun _ _ _ _ _ _ us hl => match us, hl with | [_, _], _ => rfl
  have F_made_ground := fun_mk (st := topS 19) l_made_ground c_made_ground k_made_ground
  have B_made_ground := F_made_ground.binds (ps := ["thing"]) fun _ _ _ _ _ _ us hl => match us, hl with | [_], _ => rfl
  have F_is_below := fun_mk (st := topS 24) l_is_below c_is_below k_is_below
  have B_is_below := F_is_below.binds (ps := ["thing", "many"]) fun _ _ _ _ _ _ us hl => match us, hl with | [_, _], _ => rfl
  have F_is_bound := fun_mk (st := topS 31) l_is_bound c_is_bound k_is_bound
  have B_is_bound := F_is_bound.binds (ps := ["thing"]) fun _ _ _ _ _ _ us hl => match us, hl with | [_], _ => rfl
  have F_is_fate := fun_mk (st := topS 32) l_is_fate c_is_fate k_is_fate
  have B_is_fate := F_is_fate.binds (ps := ["thing"]) fun _ _ _ _ _ _ us hl => match us, hl with | [_], _ => rfl
  have F_is_row := fun_mk (st := topS 33) l_is_row c_is_row k_is_row
  have B_is_row := F_is_row.binds (ps := ["many", "thing"]) fun _ _ _ _ _ _ us hl => match us, hl with | [_, _], _ => rfl
  have F_made_book := fun_mk (st := topS 34) l_made_book c_made_book k_made_book
  have B_made_book := F_made_book.binds (ps := ["many", "thing"]) fun _ _ _ _ _ _ us hl => match us, hl with | [_, _], _ => rfl
  have F_shelves := fun_mk (st := topS 20) l_shelves c_shelves k_shelves
  have B_shelves := F_shelves.binds (ps := ["ground"]) fun _ _ _ _ _ _ us hl => match us, hl with | [_], _ => rfl
  have F_Clerk____init__ := fun_mk (st := inClass (topS 53) 0) l_Clerk____init__ c_Clerk____init__ k_Clerk____init__
  have B_Clerk____init__ := F_Clerk____init__.binds (ps := ["self", "ground", "book"]) fun _ _ _ _ _ _ us hl => match us, hl with | [_, _, _], _ => rfl
  have F_met := fun_mk (st := topS 47) l_met c_met k_met
  have B_met := F_met.binds (ps := ["weaving"]) fun _ _ _ _ _ _ us hl => match us, hl with | [_], _ => rfl
  have F_without := fun_mk (st := topS 42) l_without c_without k_without
  have B_without := F_without.binds (ps := ["length", "many"]) fun _ _ _ _ _ _ us hl => match us, hl with | [_, _], _ => rfl
  have F_greater := fun_mk (st := topS 40) l_greater c_greater k_greater
  have B_greater := F_greater.binds (ps := ["one", "other"]) fun _ _ _ _ _ _ us hl => match us, hl with | [_, _], _ => rfl
  have F_lesser := fun_mk (st := topS 39) l_lesser c_lesser k_lesser
  have B_lesser := F_lesser.binds (ps := ["one", "other"]) fun _ _ _ _ _ _ us hl => match us, hl with | [_, _], _ => rfl
  have F_missing := fun_mk (st := topS 41) l_missing c_missing k_missing
  have B_missing := F_missing.binds (ps := ["fate", "other", "told"]) fun _ _ _ _ _ _ us hl => match us, hl with | [_, _, _], _ => rfl
  have F_head := fun_mk (st := topS 43) l_head c_head k_head
  have B_head := F_head.binds (ps := ["length", "fate", "other", "told"]) fun _ _ _ _ _ _ us hl => match us, hl with | [_, _, _, _], _ => rfl
  have F_heads := fun_mk (st := topS 44) l_heads c_heads k_heads
  have B_heads := F_heads.binds (ps := ["lengths", "row", "other", "told"]) fun _ _ _ _ _ _ us hl => match us, hl with | [_, _, _, _], _ => rfl
  have F_unlike_heads := fun_mk (st := topS 48) l_unlike_heads c_unlike_heads k_unlike_heads
  have B_unlike_heads := F_unlike_heads.binds (ps := ["book", "told", "weaving"]) fun _ _ _ _ _ _ us hl => match us, hl with | [_, _, _], _ => rfl
  have F_counts_ahead := fun_mk (st := topS 45) l_counts_ahead c_counts_ahead k_counts_ahead
  have B_counts_ahead := F_counts_ahead.binds (ps := ["tape", "b"]) fun _ _ _ _ _ _ us hl => match us, hl with | [_, _], _ => rfl
  have F_safe_among := fun_mk (st := topS 49) l_safe_among c_safe_among k_safe_among
  have B_safe_among := F_safe_among.binds (ps := ["k", "book", "told", "weaving", "some"]) fun _ _ _ _ _ _ us hl => match us, hl with | [_, _, _, _, _], _ => rfl
  have F_Clerk__safe_of := fun_mk (st := inClass (topS 53) 2) l_Clerk__safe_of c_Clerk__safe_of k_Clerk__safe_of
  have B_Clerk__safe_of := F_Clerk__safe_of.binds (ps := ["self", "some"]) fun _ _ _ _ _ _ us hl => match us, hl with | [_, _], _ => rfl
  have F_Clerk__reckon_anew := fun_mk (st := inClass (topS 53) 3) l_Clerk__reckon_anew c_Clerk__reckon_anew k_Clerk__reckon_anew
  have B_Clerk__reckon_anew := F_Clerk__reckon_anew.binds (ps := ["self"]) fun _ _ _ _ _ _ us hl => match us, hl with | [_], _ => rfl
  have F_Clerk__change := fun_mk (st := inClass (topS 53) 7) l_Clerk__change c_Clerk__change k_Clerk__change
  have B_Clerk__change := F_Clerk__change.binds (ps := ["self", "book"]) fun _ _ _ _ _ _ us hl => match us, hl with | [_, _], _ => rfl
  have F_is_number := fun_mk (st := topS 37) l_is_number c_is_number k_is_number
  have B_is_number := F_is_number.binds (ps := ["thing", "low", "high"]) fun _ _ _ _ _ _ us hl => match us, hl with | [_, _, _], _ => rfl
  have F_Clerk__check_shelf := fun_mk (st := inClass (topS 53) 1) l_Clerk__check_shelf c_Clerk__check_shelf k_Clerk__check_shelf
  have B_Clerk__check_shelf := F_Clerk__check_shelf.binds (ps := ["self", "shelf"]) fun _ _ _ _ _ _ us hl => match us, hl with | [_, _], _ => rfl
  have F_Clerk__lost := fun_mk (st := inClass (topS 53) 8) l_Clerk__lost c_Clerk__lost k_Clerk__lost
  have B_Clerk__lost := F_Clerk__lost.binds (ps := ["self", "shelf"]) fun _ _ _ _ _ _ us hl => match us, hl with | [_, _], _ => rfl
  have F_Clerk__write := fun_mk (st := inClass (topS 53) 4) l_Clerk__write c_Clerk__write k_Clerk__write
  have B_Clerk__write := F_Clerk__write.binds (ps := ["self", "shelf", "b"]) fun _ _ _ _ _ _ us hl => match us, hl with | [_, _, _], _ => rfl
  have F_Clerk__done := fun_mk (st := inClass (topS 53) 6) l_Clerk__done c_Clerk__done k_Clerk__done
  have B_Clerk__done := F_Clerk__done.binds (ps := ["self"]) fun _ _ _ _ _ _ us hl => match us, hl with | [_], _ => rfl
  have F_check_told := fun_mk (st := topS 38) l_check_told c_check_told k_check_told
  have B_check_told := F_check_told.binds (ps := ["told"]) fun _ _ _ _ _ _ us hl => match us, hl with | [_], _ => rfl
  have F_is_tape := fun_mk (st := topS 25) l_is_tape c_is_tape k_is_tape
  have B_is_tape := F_is_tape.binds (ps := ["thing"]) fun _ _ _ _ _ _ us hl => match us, hl with | [_], _ => rfl
  have F_made_weaving := fun_mk (st := topS 26) l_made_weaving c_made_weaving k_made_weaving
  have B_made_weaving := F_made_weaving.binds (ps := ["ground", "thing"]) fun _ _ _ _ _ _ us hl => match us, hl with | [_, _], _ => rfl
  have F_checked := fun_mk (st := topS 46) l_checked c_checked k_checked
  have B_checked := F_checked.binds (ps := ["ground", "book", "told", "weaving"]) fun _ _ _ _ _ _ us hl => match us, hl with | [_, _, _, _], _ => rfl
  have F_done := fun_mk (st := topS 50) l_done c_done k_done
  have B_done := F_done.binds (ps := ["ground", "book", "told", "weaving"]) fun _ _ _ _ _ _ us hl => match us, hl with | [_, _, _, _], _ => rfl
  have F_Clerk__weaving := fun_mk (st := inClass (topS 53) 5) l_Clerk__weaving c_Clerk__weaving k_Clerk__weaving
  have B_Clerk__weaving := F_Clerk__weaving.binds (ps := ["self"]) fun _ _ _ _ _ _ us hl => match us, hl with | [_], _ => rfl
  have F__law_least := fun_mk (st := topS 67) l__law_least c__law_least k__law_least
  have B__law_least := F__law_least.binds (ps := ["_law_entries"]) fun _ _ _ _ _ _ us hl => match us, hl with | [_], _ => rfl
  have F__law_greater := fun_mk (st := topS 63) l__law_greater c__law_greater k__law_greater
  have B__law_greater := F__law_greater.binds (ps := ["_law_one", "_law_other"]) fun _ _ _ _ _ _ us hl => match us, hl with | [_, _], _ => rfl
  have F__law_lesser := fun_mk (st := topS 64) l__law_lesser c__law_lesser k__law_lesser
  have B__law_lesser := F__law_lesser.binds (ps := ["_law_one", "_law_other"]) fun _ _ _ _ _ _ us hl => match us, hl with | [_, _], _ => rfl
  have F__law_head := fun_mk (st := topS 65) l__law_head c__law_head k__law_head
  have B__law_head := F__law_head.binds (ps := ["_law_one", "_law_other", "_law_length", "_law_told"]) fun _ _ _ _ _ _ us hl => match us, hl with | [_, _, _, _], _ => rfl
  have F__law_sums := fun_mk (st := topS 66) l__law_sums c__law_sums k__law_sums
  have B__law_sums := F__law_sums.binds (ps := ["_law_book_here", "_law_told", "_law_weaving", "_law_b"]) fun _ _ _ _ _ _ us hl => match us, hl with | [_, _, _, _], _ => rfl
  have F__law_anew := fun_mk (st := topS 68) l__law_anew c__law_anew k__law_anew
  have B__law_anew := F__law_anew.binds (ps := ["_law_pool_here", "_law_ground_here", "_law_book_here", "_law_tapes"]) fun _ _ _ _ _ _ us hl => match us, hl with | [_, _, _, _], _ => rfl
  have F_law := fun_mk (st := topS 69) l_law c_law k_law
  have B_law := F_law.binds (ps := ["_law_script"]) fun _ _ _ _ _ _ us hl => match us, hl with | [_], _ => rfl
  have FI := fun_mk (st := inClass (topS 1) 0) lI cI kI
  have BI := FI.binds (ps := ["self", "what"]) fun _ _ _ _ _ _ us hl => match us, hl with | [_, _], _ => rfl
  have SI : FnScope ["self", "what"] ["self", "what"] (defScope (inClass (topS 1) 0)) := ⟨rfl, rfl, rfl, by decide +kernel, rfl, by decide +kernel, by decide +kernel⟩
  have gp_safe_among : h.get? Pt_safe_among = some (PySem.W.tabObj #[]) := OT "safe_among" f_safe_among rec_safe_among (PySem.W.mg_of X G a_safe_among) cd_safe_among Pt_safe_among _ _ _ _ _ _ l_safe_among rfl rfl o_safe_among p11_safe_among
  have H1 : ∀ p ∈ ([(cd_safe_among, Pt_safe_among)] : List (Addr × Addr)), h.get? p.2 = some (PySem.W.tabObj #[]) := fun p hp => by
      rcases List.mem_cons.mp hp with rfl | hp
      · exact gp_safe_among
      cases hp
  have H2 : ∀ p ∈ ([(cd_safe_among, Pt_safe_among)] : List (Addr × Addr)), K.lookup p.2 = none := fun p hp => by
      rcases List.mem_cons.mp hp with rfl | hp
      · exact kn_safe_among
      cases hp
  have H3 : ∀ p ∈ ([(cd_safe_among, Pt_safe_among)] : List (Addr × Addr)), PySem.W.CodeHd h p.1 p.2 := fun p hp => by
      rcases List.mem_cons.mp hp with rfl | hp
      · exact code_hd X o_safe_among p11_safe_among e11_safe_among e18_safe_among e7_safe_among e9_safe_among e10_safe_among ne_safe_among
      cases hp
  have H4 : ∀ p ∈ ([(Pt_safe_among, ("safe_among" ++ (".<locals>." : Str) ++ ("<genexpr>" : Str)))] : List (Addr × Str)), ∃ c, (c, p.1) ∈ ([(cd_safe_among, Pt_safe_among)] : List (Addr × Addr)) := fun p hp => by
      rcases List.mem_cons.mp hp with rfl | hp
      · exact ⟨cd_safe_among, (.head _)⟩
      cases hp
  have U_safe_among : ∀ p ∈ ([(Pt_safe_among, ("safe_among" ++ (".<locals>." : Str) ++ ("<genexpr>" : Str)))] : List (Addr × Str)), p.1 = Pt_safe_among → p.2 = ("safe_among" ++ (".<locals>." : Str) ++ ("<genexpr>" : Str)) := fun p hp he => by
    rcases List.mem_cons.mp hp with rfl | hp
    · exact rfl
    cases hp
  refine law_atT (fd := PySem.W.fnOf "law" "law" (defArgs (topS 69)) (defBody (topS 69)) (defScope (topS 69)) .none kV_law dc_law pm_law an_law (.ref cd_law) ct_law) (cs := [(cd_safe_among, Pt_safe_among)]) (TT := [(Pt_safe_among, ("safe_among" ++ (".<locals>." : Str) ++ ("<genexpr>" : Str)))]) (den := den_law) H1 H2 H3 (fun s v => ?_) H4 law_true (fun base hb gb hTB => ?_)
  rotate_left
  · have E_BadBook : ErC l.prog w K mg base "BadBook" := ⟨C_BadBook, fI, _, _, PySem.W.mg_of X G aC_BadBook, ⟨⟨_, _, _, _, _, _, _, _, _, _, _, _, _, _, _, lC_BadBook, rC_BadBook⟩, sa_BadBook, eC_BadBook, tC_BadBook, kC_BadBook⟩, iC_BadBook, tI, nw_BadBook, init_ok FI SI rfl rfl rfl, BI⟩
    have E_BadGround : ErC l.prog w K mg base "BadGround" := ⟨C_BadGround, fI, _, _, PySem.W.mg_of X G aC_BadGround, ⟨⟨_, _, _, _, _, _, _, _, _, _, _, _, _, _, _, lC_BadGround, rC_BadGround⟩, sa_BadGround, eC_BadGround, tC_BadGround, kC_BadGround⟩, iC_BadGround, tI, nw_BadGround, init_ok FI SI rfl rfl rfl, BI⟩
    have E_BadMany : ErC l.prog w K mg base "BadMany" := ⟨C_BadMany, fI, _, _, PySem.W.mg_of X G aC_BadMany, ⟨⟨_, _, _, _, _, _, _, _, _, _, _, _, _, _, _, lC_BadMany, rC_BadMany⟩, sa_BadMany, eC_BadMany, tC_BadMany, kC_BadMany⟩, iC_BadMany, tI, nw_BadMany, init_ok FI SI rfl rfl rfl, BI⟩
    have E_BadNumber : ErC l.prog w K mg base "BadNumber" := ⟨C_BadNumber, fI, _, _, PySem.W.mg_of X G aC_BadNumber, ⟨⟨_, _, _, _, _, _, _, _, _, _, _, _, _, _, _, lC_BadNumber, rC_BadNumber⟩, sa_BadNumber, eC_BadNumber, tC_BadNumber, kC_BadNumber⟩, iC_BadNumber, tI, nw_BadNumber, init_ok FI SI rfl rfl rfl, BI⟩
    have E_BadShelf : ErC l.prog w K mg base "BadShelf" := ⟨C_BadShelf, fI, _, _, PySem.W.mg_of X G aC_BadShelf, ⟨⟨_, _, _, _, _, _, _, _, _, _, _, _, _, _, _, lC_BadShelf, rC_BadShelf⟩, sa_BadShelf, eC_BadShelf, tC_BadShelf, kC_BadShelf⟩, iC_BadShelf, tI, nw_BadShelf, init_ok FI SI rfl rfl rfl, BI⟩
    have E_BadTold : ErC l.prog w K mg base "BadTold" := ⟨C_BadTold, fI, _, _, PySem.W.mg_of X G aC_BadTold, ⟨⟨_, _, _, _, _, _, _, _, _, _, _, _, _, _, _, lC_BadTold, rC_BadTold⟩, sa_BadTold, eC_BadTold, tC_BadTold, kC_BadTold⟩, iC_BadTold, tI, nw_BadTold, init_ok FI SI rfl rfl rfl, BI⟩
    have E_BadWeaving : ErC l.prog w K mg base "BadWeaving" := ⟨C_BadWeaving, fI, _, _, PySem.W.mg_of X G aC_BadWeaving, ⟨⟨_, _, _, _, _, _, _, _, _, _, _, _, _, _, _, lC_BadWeaving, rC_BadWeaving⟩, sa_BadWeaving, eC_BadWeaving, tC_BadWeaving, kC_BadWeaving⟩, iC_BadWeaving, tI, nw_BadWeaving, init_ok FI SI rfl rfl rfl, BI⟩
    have E_Full : ErC l.prog w K mg base "Full" := ⟨C_Full, fI, _, _, PySem.W.mg_of X G aC_Full, ⟨⟨_, _, _, _, _, _, _, _, _, _, _, _, _, _, _, lC_Full, rC_Full⟩, sa_Full, eC_Full, tC_Full, kC_Full⟩, iC_Full, tI, nw_Full, init_ok FI SI rfl rfl rfl, BI⟩
    have E_TooMany : ErC l.prog w K mg base "TooMany" := ⟨C_TooMany, fI, _, _, PySem.W.mg_of X G aC_TooMany, ⟨⟨_, _, _, _, _, _, _, _, _, _, _, _, _, _, _, lC_TooMany, rC_TooMany⟩, sa_TooMany, eC_TooMany, tC_TooMany, kC_TooMany⟩, iC_TooMany, tI, nw_TooMany, init_ok FI SI rfl rfl rfl, BI⟩
    have F_Clerk_book : FldOk K "Clerk" "book" := ⟨C_Clerk, aC_Clerk, ⟨pg_Clerk, hd_Clerk, po_Clerk, sa_Clerk⟩, nf_Clerk_book⟩
    have F_Clerk_ground : FldOk K "Clerk" "ground" := ⟨C_Clerk, aC_Clerk, ⟨pg_Clerk, hd_Clerk, po_Clerk, sa_Clerk⟩, nf_Clerk_ground⟩
    have F_Clerk_safe_now : FldOk K "Clerk" "safe_now" := ⟨C_Clerk, aC_Clerk, ⟨pg_Clerk, hd_Clerk, po_Clerk, sa_Clerk⟩, nf_Clerk_safe_now⟩
    have F_Clerk_tapes : FldOk K "Clerk" "tapes" := ⟨C_Clerk, aC_Clerk, ⟨pg_Clerk, hd_Clerk, po_Clerk, sa_Clerk⟩, nf_Clerk_tapes⟩
    have F_Clerk_unsafe : FldOk K "Clerk" "unsafe" := ⟨C_Clerk, aC_Clerk, ⟨pg_Clerk, hd_Clerk, po_Clerk, sa_Clerk⟩, nf_Clerk_unsafe⟩
    have D__law_pool : Df l.prog w K mg base 1 "_law_pool" 1 den__law_pool := ⟨_, _, _, ok__law_pool F__law_pool T , PySem.W.mg_of X G a__law_pool, k__law_pool, B__law_pool⟩
    have D__law_draw : Df l.prog w K mg base 1 "_law_draw" 2 den__law_draw := ⟨_, _, _, ok__law_draw F__law_draw T , PySem.W.mg_of X G a__law_draw, k__law_draw, B__law_draw⟩
    have D__law_pick : Df l.prog w K mg base 2 "_law_pick" 2 den__law_pick := ⟨_, _, _, ok__law_pick F__law_pick T D__law_draw, PySem.W.mg_of X G a__law_pick, k__law_pick, B__law_pick⟩
    have D__law_turned : Df l.prog w K mg base 2 "_law_turned" 2 den__law_turned := ⟨_, _, _, ok__law_turned F__law_turned T D__law_draw, PySem.W.mg_of X G a__law_turned, k__law_turned, B__law_turned⟩
    have D__law_ground : Df l.prog w K mg base 3 "_law_ground" 3 den__law_ground := ⟨_, _, _, ok__law_ground F__law_ground T D__law_pick D__law_draw D__law_turned, PySem.W.mg_of X G a__law_ground, k__law_ground, B__law_ground⟩
    have D__law_bound : Df l.prog w K mg base 3 "_law_bound" 1 den__law_bound := ⟨_, _, _, ok__law_bound F__law_bound T D__law_pick, PySem.W.mg_of X G a__law_bound, k__law_bound, B__law_bound⟩
    have D__law_row : Df l.prog w K mg base 4 "_law_row" 2 den__law_row := ⟨_, _, _, ok__law_row F__law_row T D__law_draw D__law_bound, PySem.W.mg_of X G a__law_row, k__law_row, B__law_row⟩
    have D__law_book : Df l.prog w K mg base 5 "_law_book" 2 den__law_book := ⟨_, _, _, ok__law_book F__law_book T D__law_draw D__law_row, PySem.W.mg_of X G a__law_book, k__law_book, B__law_book⟩
    have D_is_whole : Df l.prog w K mg base 1 "is_whole" 3 den_is_whole := ⟨_, _, _, ok_is_whole F_is_whole T , PySem.W.mg_of X G a_is_whole, k_is_whole, B_is_whole⟩
    have D_is_prime : Df l.prog w K mg base 2 "is_prime" 1 den_is_prime := ⟨_, _, _, ok_is_prime F_is_prime T D_is_whole, PySem.W.mg_of X G a_is_prime, k_is_prime, B_is_prime⟩
    have D_are_points : Df l.prog w K mg base 2 "are_points" 2 den_are_points := ⟨_, _, _, ok_are_points F_are_points T D_is_whole, PySem.W.mg_of X G a_are_points, k_are_points, B_are_points⟩
    have D_made_ground : Df l.prog w K mg base 3 "made_ground" 1 den_made_ground := ⟨_, _, _, ok_made_ground F_made_ground T D_is_prime D_is_whole D_are_points E_BadGround, PySem.W.mg_of X G a_made_ground, k_made_ground, B_made_ground⟩
    have D_is_below : Df l.prog w K mg base 1 "is_below" 2 den_is_below := ⟨_, _, _, ok_is_below F_is_below T , PySem.W.mg_of X G a_is_below, k_is_below, B_is_below⟩
    have D_is_bound : Df l.prog w K mg base 2 "is_bound" 1 den_is_bound := ⟨_, _, _, ok_is_bound F_is_bound T D_is_below, PySem.W.mg_of X G a_is_bound, k_is_bound, B_is_bound⟩
    have D_is_fate : Df l.prog w K mg base 3 "is_fate" 1 den_is_fate := ⟨_, _, _, ok_is_fate F_is_fate T D_is_bound, PySem.W.mg_of X G a_is_fate, k_is_fate, B_is_fate⟩
    have D_is_row : Df l.prog w K mg base 4 "is_row" 2 den_is_row := ⟨_, _, _, ok_is_row F_is_row T D_is_fate, PySem.W.mg_of X G a_is_row, k_is_row, B_is_row⟩
    have D_made_book : Df l.prog w K mg base 5 "made_book" 2 den_made_book := ⟨_, _, _, ok_made_book F_made_book T D_is_below D_is_row E_BadMany E_BadBook E_TooMany, PySem.W.mg_of X G a_made_book, k_made_book, B_made_book⟩
    have D_shelves : Df l.prog w K mg base 4 "shelves" 1 den_shelves := ⟨_, _, _, ok_shelves F_shelves T D_made_ground, PySem.W.mg_of X G a_shelves, k_shelves, B_shelves⟩
    have D_Clerk____init__ : Dk l.prog w K mg base 6 "Clerk" 3 den_Clerk____init__ := ⟨C_Clerk, f_Clerk____init__, _, _, aC_Clerk, PySem.W.mg_of X G aC_Clerk, ⟨mk_Clerk, a_Clerk____init__, i_Clerk____init__, kC_Clerk⟩, ok_Clerk____init__ F_Clerk____init__ T F_Clerk_ground F_Clerk_book F_Clerk_tapes F_Clerk_safe_now F_Clerk_unsafe D_made_ground D_made_book D_shelves, B_Clerk____init__⟩
    have D_met : Df l.prog w K mg base 1 "met" 1 den_met := ⟨_, _, _, ok_met F_met T , PySem.W.mg_of X G a_met, k_met, B_met⟩
    have D_without : Df l.prog w K mg base 1 "without" 2 den_without := ⟨_, _, _, ok_without F_without T , PySem.W.mg_of X G a_without, k_without, B_without⟩
    have D_greater : Df l.prog w K mg base 1 "greater" 2 den_greater := ⟨_, _, _, ok_greater F_greater T , PySem.W.mg_of X G a_greater, k_greater, B_greater⟩
    have D_lesser : Df l.prog w K mg base 1 "lesser" 2 den_lesser := ⟨_, _, _, ok_lesser F_lesser T , PySem.W.mg_of X G a_lesser, k_lesser, B_lesser⟩
    have D_missing : Df l.prog w K mg base 2 "missing" 3 den_missing := ⟨_, _, _, ok_missing F_missing T D_lesser, PySem.W.mg_of X G a_missing, k_missing, B_missing⟩
    have D_head : Df l.prog w K mg base 3 "head" 4 den_head := ⟨_, _, _, ok_head F_head T D_without D_greater D_missing, PySem.W.mg_of X G a_head, k_head, B_head⟩
    have D_heads : Df l.prog w K mg base 4 "heads" 4 den_heads := ⟨_, _, _, ok_heads F_heads T D_head, PySem.W.mg_of X G a_heads, k_heads, B_heads⟩
    have D_unlike_heads : Df l.prog w K mg base 5 "unlike_heads" 3 den_unlike_heads := ⟨_, _, _, ok_unlike_heads F_unlike_heads T D_heads, PySem.W.mg_of X G a_unlike_heads, k_unlike_heads, B_unlike_heads⟩
    have D_counts_ahead : Df l.prog w K mg base 1 "counts_ahead" 2 den_counts_ahead := ⟨_, _, _, ok_counts_ahead F_counts_ahead T , PySem.W.mg_of X G a_counts_ahead, k_counts_ahead, B_counts_ahead⟩
    have D_safe_among : DfT l.prog w K mg base [(Pt_safe_among, ("safe_among" ++ (".<locals>." : Str) ++ ("<genexpr>" : Str)))] 6 "safe_among" 5 den_safe_among := ⟨_, _, _, ok_safe_among l_safe_among c_safe_among T (hTB (cd_safe_among, Pt_safe_among) (.head _)) (.head _) U_safe_among D_unlike_heads D_counts_ahead, PySem.W.mg_of X G a_safe_among, k_safe_among, B_safe_among⟩
    have D_Clerk__safe_of : DmT l.prog w K mg base [(Pt_safe_among, ("safe_among" ++ (".<locals>." : Str) ++ ("<genexpr>" : Str)))] 7 "Clerk" "safe_of" 2 den_Clerk__safe_of := ⟨C_Clerk, f_Clerk__safe_of, _, _, aC_Clerk, ⟨pg_Clerk, hd_Clerk, po_Clerk, sa_Clerk⟩, ⟨a_Clerk__safe_of, i_Clerk__safe_of, k_Clerk__safe_of⟩, ok_Clerk__safe_of l_Clerk__safe_of c_Clerk__safe_of T  F_Clerk_tapes F_Clerk_book F_Clerk_ground D_safe_among, B_Clerk__safe_of⟩
    have D_Clerk__reckon_anew : DmT l.prog w K mg base [(Pt_safe_among, ("safe_among" ++ (".<locals>." : Str) ++ ("<genexpr>" : Str)))] 8 "Clerk" "reckon_anew" 1 den_Clerk__reckon_anew := ⟨C_Clerk, f_Clerk__reckon_anew, _, _, aC_Clerk, ⟨pg_Clerk, hd_Clerk, po_Clerk, sa_Clerk⟩, ⟨a_Clerk__reckon_anew, i_Clerk__reckon_anew, k_Clerk__reckon_anew⟩, ok_Clerk__reckon_anew l_Clerk__reckon_anew c_Clerk__reckon_anew T  F_Clerk_tapes F_Clerk_safe_now F_Clerk_unsafe D_met D_Clerk__safe_of, B_Clerk__reckon_anew⟩
    have D_Clerk__change : DmT l.prog w K mg base [(Pt_safe_among, ("safe_among" ++ (".<locals>." : Str) ++ ("<genexpr>" : Str)))] 9 "Clerk" "change" 2 den_Clerk__change := ⟨C_Clerk, f_Clerk__change, _, _, aC_Clerk, ⟨pg_Clerk, hd_Clerk, po_Clerk, sa_Clerk⟩, ⟨a_Clerk__change, i_Clerk__change, k_Clerk__change⟩, ok_Clerk__change l_Clerk__change c_Clerk__change T  F_Clerk_tapes F_Clerk_book D_made_book D_Clerk__reckon_anew, B_Clerk__change⟩
    have D_is_number : Df l.prog w K mg base 1 "is_number" 3 den_is_number := ⟨_, _, _, ok_is_number F_is_number T , PySem.W.mg_of X G a_is_number, k_is_number, B_is_number⟩
    have D_Clerk__check_shelf : Dm l.prog w K mg base 3 "Clerk" "check_shelf" 2 den_Clerk__check_shelf := ⟨C_Clerk, f_Clerk__check_shelf, _, _, aC_Clerk, ⟨pg_Clerk, hd_Clerk, po_Clerk, sa_Clerk⟩, ⟨a_Clerk__check_shelf, i_Clerk__check_shelf, k_Clerk__check_shelf⟩, ok_Clerk__check_shelf F_Clerk__check_shelf T F_Clerk_tapes D_is_number E_BadShelf, B_Clerk__check_shelf⟩
    have D_Clerk__lost : DmT l.prog w K mg base [(Pt_safe_among, ("safe_among" ++ (".<locals>." : Str) ++ ("<genexpr>" : Str)))] 9 "Clerk" "lost" 2 den_Clerk__lost := ⟨C_Clerk, f_Clerk__lost, _, _, aC_Clerk, ⟨pg_Clerk, hd_Clerk, po_Clerk, sa_Clerk⟩, ⟨a_Clerk__lost, i_Clerk__lost, k_Clerk__lost⟩, ok_Clerk__lost l_Clerk__lost c_Clerk__lost T  F_Clerk_tapes D_Clerk__check_shelf D_Clerk__reckon_anew, B_Clerk__lost⟩
    have D_Clerk__write : DmT l.prog w K mg base [(Pt_safe_among, ("safe_among" ++ (".<locals>." : Str) ++ ("<genexpr>" : Str)))] 8 "Clerk" "write" 3 den_Clerk__write := ⟨C_Clerk, f_Clerk__write, _, _, aC_Clerk, ⟨pg_Clerk, hd_Clerk, po_Clerk, sa_Clerk⟩, ⟨a_Clerk__write, i_Clerk__write, k_Clerk__write⟩, ok_Clerk__write l_Clerk__write c_Clerk__write T  F_Clerk_tapes F_Clerk_safe_now F_Clerk_unsafe D_Clerk__check_shelf D_is_number D_Clerk__safe_of E_BadNumber E_Full, B_Clerk__write⟩
    have D_Clerk__done : Dm l.prog w K mg base 1 "Clerk" "done" 1 den_Clerk__done := ⟨C_Clerk, f_Clerk__done, _, _, aC_Clerk, ⟨pg_Clerk, hd_Clerk, po_Clerk, sa_Clerk⟩, ⟨a_Clerk__done, i_Clerk__done, k_Clerk__done⟩, ok_Clerk__done F_Clerk__done T F_Clerk_safe_now, B_Clerk__done⟩
    have D_check_told : Df l.prog w K mg base 3 "check_told" 1 den_check_told := ⟨_, _, _, ok_check_told F_check_told T E_BadTold, PySem.W.mg_of X G a_check_told, k_check_told, B_check_told⟩
    have D_is_tape : Df l.prog w K mg base 2 "is_tape" 1 den_is_tape := ⟨_, _, _, ok_is_tape F_is_tape T D_is_below, PySem.W.mg_of X G a_is_tape, k_is_tape, B_is_tape⟩
    have D_made_weaving : Df l.prog w K mg base 5 "made_weaving" 2 den_made_weaving := ⟨_, _, _, ok_made_weaving F_made_weaving T D_made_ground D_shelves D_is_tape E_BadWeaving, PySem.W.mg_of X G a_made_weaving, k_made_weaving, B_made_weaving⟩
    have D_checked : Df l.prog w K mg base 6 "checked" 4 den_checked := ⟨_, _, _, ok_checked F_checked T D_made_ground D_made_book D_shelves D_check_told D_made_weaving, PySem.W.mg_of X G a_checked, k_checked, B_checked⟩
    have D_done : DfT l.prog w K mg base [(Pt_safe_among, ("safe_among" ++ (".<locals>." : Str) ++ ("<genexpr>" : Str)))] 7 "done" 4 den_done := ⟨_, _, _, ok_done l_done c_done T  D_checked D_safe_among D_met, PySem.W.mg_of X G a_done, k_done, B_done⟩
    have D_Clerk__weaving : Dm l.prog w K mg base 1 "Clerk" "weaving" 1 den_Clerk__weaving := ⟨C_Clerk, f_Clerk__weaving, _, _, aC_Clerk, ⟨pg_Clerk, hd_Clerk, po_Clerk, sa_Clerk⟩, ⟨a_Clerk__weaving, i_Clerk__weaving, k_Clerk__weaving⟩, ok_Clerk__weaving F_Clerk__weaving T F_Clerk_tapes, B_Clerk__weaving⟩
    have D__law_least : Df l.prog w K mg base 1 "_law_least" 1 den__law_least := ⟨_, _, _, ok__law_least F__law_least T , PySem.W.mg_of X G a__law_least, k__law_least, B__law_least⟩
    have D__law_greater : Df l.prog w K mg base 1 "_law_greater" 2 den__law_greater := ⟨_, _, _, ok__law_greater F__law_greater T , PySem.W.mg_of X G a__law_greater, k__law_greater, B__law_greater⟩
    have D__law_lesser : Df l.prog w K mg base 1 "_law_lesser" 2 den__law_lesser := ⟨_, _, _, ok__law_lesser F__law_lesser T , PySem.W.mg_of X G a__law_lesser, k__law_lesser, B__law_lesser⟩
    have D__law_head : Df l.prog w K mg base 2 "_law_head" 4 den__law_head := ⟨_, _, _, ok__law_head F__law_head T D__law_lesser D__law_greater, PySem.W.mg_of X G a__law_head, k__law_head, B__law_head⟩
    have D__law_sums : Df l.prog w K mg base 3 "_law_sums" 4 den__law_sums := ⟨_, _, _, ok__law_sums F__law_sums T D__law_head, PySem.W.mg_of X G a__law_sums, k__law_sums, B__law_sums⟩
    have D__law_anew : DfT l.prog w K mg base [(Pt_safe_among, ("safe_among" ++ (".<locals>." : Str) ++ ("<genexpr>" : Str)))] 9 "_law_anew" 4 den__law_anew := ⟨_, _, _, ok__law_anew l__law_anew c__law_anew T  D_Clerk____init__ D__law_draw D_Clerk__write D_Clerk__weaving D_Clerk__done, PySem.W.mg_of X G a__law_anew, k__law_anew, B__law_anew⟩
    exact ok_law (P := l.prog) (w := w) (base := base) l_law c_law T  D__law_pool D__law_ground D__law_book D_Clerk____init__ D__law_draw D_Clerk__change D_Clerk__lost D_Clerk__write D__law_least D__law_sums D_Clerk__done D_done D_Clerk__weaving D__law_anew
  · exact .of_eq rfl
end FSEnd
open PySem PySem.W PyProof.Rows
set_option maxRecDepth 100000 in
set_option maxHeartbeats 0 in
theorem PySem.Challenge.cw_firstsafe_k54_clerk_beside_another_holds : PySem.Challenge.rw_firstsafe_k54_clerk_beside_another.Holds := by
  w_on; o_law; k_head; (case hw => w_witness2)
  k_fill
  refine LamX.walk_ofAll (l := PySem.Challenge.rw_firstsafe_k54_clerk_beside_another) (n := 63) (CX := fun w => L2.CX (PySem.Challenge.rw_firstsafe_k54_clerk_beside_another).prog w) (k := 10) (x := "_law_script") rfl (by decide) rfl ⟨rfl, by decide, by decide⟩ (fun w h Y => PySem.W.kIn_of Y) ?F (fun _ _ _ _ _ z => by
    obtain ⟨_, _, _, _, _, _, _, _, _, _, _, _, z⟩ := z
    exact z)
  case F =>
    intro w mg fa h Y KX G hmg OT
    refine' FSEnd.all_mk KX G hmg OT ?aC_BadBook ?lC_BadBook ?rC_BadBook ?sa_BadBook ?ga_BadBook ?gg_BadBook ?nw_BadBook ?kC_BadBook ?eC_BadBook ?tC_BadBook ?hC_BadBook ?iC_BadBook ?aC_BadGround ?lC_BadGround ?rC_BadGround ?sa_BadGround ?ga_BadGround ?gg_BadGround ?nw_BadGround ?kC_BadGround ?eC_BadGround ?tC_BadGround ?hC_BadGround ?iC_BadGround ?aC_BadMany ?lC_BadMany ?rC_BadMany ?sa_BadMany ?ga_BadMany ?gg_BadMany ?nw_BadMany ?kC_BadMany ?eC_BadMany ?tC_BadMany ?hC_BadMany ?iC_BadMany ?aC_BadNumber ?lC_BadNumber ?rC_BadNumber ?sa_BadNumber ?ga_BadNumber ?gg_BadNumber ?nw_BadNumber ?kC_BadNumber ?eC_BadNumber ?tC_BadNumber ?hC_BadNumber ?iC_BadNumber ?aC_BadShelf ?lC_BadShelf ?rC_BadShelf ?sa_BadShelf ?ga_BadShelf ?gg_BadShelf ?nw_BadShelf ?kC_BadShelf ?eC_BadShelf ?tC_BadShelf ?hC_BadShelf ?iC_BadShelf ?aC_BadTold ?lC_BadTold ?rC_BadTold ?sa_BadTold ?ga_BadTold ?gg_BadTold ?nw_BadTold ?kC_BadTold ?eC_BadTold ?tC_BadTold ?hC_BadTold ?iC_BadTold ?aC_BadWeaving ?lC_BadWeaving ?rC_BadWeaving ?sa_BadWeaving ?ga_BadWeaving ?gg_BadWeaving ?nw_BadWeaving ?kC_BadWeaving ?eC_BadWeaving ?tC_BadWeaving ?hC_BadWeaving ?iC_BadWeaving ?aC_Full ?lC_Full ?rC_Full ?sa_Full ?ga_Full ?gg_Full ?nw_Full ?kC_Full ?eC_Full ?tC_Full ?hC_Full ?iC_Full ?aC_TooMany ?lC_TooMany ?rC_TooMany ?sa_TooMany ?ga_TooMany ?gg_TooMany ?nw_TooMany ?kC_TooMany ?eC_TooMany ?tC_TooMany ?hC_TooMany ?iC_TooMany ?tI ?lI ?cI ?kI ?aC_Clerk ?pg_Clerk ?hd_Clerk ?po_Clerk ?sa_Clerk ?mk_Clerk ?kC_Clerk ?nf_Clerk_book ?nf_Clerk_ground ?nf_Clerk_safe_now ?nf_Clerk_tapes ?nf_Clerk_unsafe ?a__law_pool ?l__law_pool ?c__law_pool ?k__law_pool ?a__law_draw ?l__law_draw ?c__law_draw ?k__law_draw ?a__law_pick ?l__law_pick ?c__law_pick ?k__law_pick ?a__law_turned ?l__law_turned ?c__law_turned ?k__law_turned ?a__law_ground ?l__law_ground ?c__law_ground ?k__law_ground ?a__law_bound ?l__law_bound ?c__law_bound ?k__law_bound ?a__law_row ?l__law_row ?c__law_row ?k__law_row ?a__law_book ?l__law_book ?c__law_book ?k__law_book ?a_is_whole ?l_is_whole ?c_is_whole ?k_is_whole ?a_is_prime ?l_is_prime ?c_is_prime ?k_is_prime ?a_are_points ?l_are_points ?c_are_points ?k_are_points ?a_made_ground ?l_made_ground ?c_made_ground ?k_made_ground ?a_is_below ?l_is_below ?c_is_below ?k_is_below ?a_is_bound ?l_is_bound ?c_is_bound ?k_is_bound ?a_is_fate ?l_is_fate ?c_is_fate ?k_is_fate ?a_is_row ?l_is_row ?c_is_row ?k_is_row ?a_made_book ?l_made_book ?c_made_book ?k_made_book ?a_shelves ?l_shelves ?c_shelves ?k_shelves ?a_Clerk____init__ ?i_Clerk____init__ ?l_Clerk____init__ ?c_Clerk____init__ ?k_Clerk____init__ ?a_met ?l_met ?c_met ?k_met ?a_without ?l_without ?c_without ?k_without ?a_greater ?l_greater ?c_greater ?k_greater ?a_lesser ?l_lesser ?c_lesser ?k_lesser ?a_missing ?l_missing ?c_missing ?k_missing ?a_head ?l_head ?c_head ?k_head ?a_heads ?l_heads ?c_heads ?k_heads ?a_unlike_heads ?l_unlike_heads ?c_unlike_heads ?k_unlike_heads ?a_counts_ahead ?l_counts_ahead ?c_counts_ahead ?k_counts_ahead ?a_safe_among ?l_safe_among ?c_safe_among ?o_safe_among ?p11_safe_among ?e11_safe_among ?e18_safe_among ?e7_safe_among ?e9_safe_among ?e10_safe_among ?ne_safe_among ?kn_safe_among ?rec_safe_among ?k_safe_among ?a_Clerk__safe_of ?i_Clerk__safe_of ?l_Clerk__safe_of ?c_Clerk__safe_of ?k_Clerk__safe_of ?a_Clerk__reckon_anew ?i_Clerk__reckon_anew ?l_Clerk__reckon_anew ?c_Clerk__reckon_anew ?k_Clerk__reckon_anew ?a_Clerk__change ?i_Clerk__change ?l_Clerk__change ?c_Clerk__change ?k_Clerk__change ?a_is_number ?l_is_number ?c_is_number ?k_is_number ?a_Clerk__check_shelf ?i_Clerk__check_shelf ?l_Clerk__check_shelf ?c_Clerk__check_shelf ?k_Clerk__check_shelf ?a_Clerk__lost ?i_Clerk__lost ?l_Clerk__lost ?c_Clerk__lost ?k_Clerk__lost ?a_Clerk__write ?i_Clerk__write ?l_Clerk__write ?c_Clerk__write ?k_Clerk__write ?a_Clerk__done ?i_Clerk__done ?l_Clerk__done ?c_Clerk__done ?k_Clerk__done ?a_check_told ?l_check_told ?c_check_told ?k_check_told ?a_is_tape ?l_is_tape ?c_is_tape ?k_is_tape ?a_made_weaving ?l_made_weaving ?c_made_weaving ?k_made_weaving ?a_checked ?l_checked ?c_checked ?k_checked ?a_done ?l_done ?c_done ?k_done ?a_Clerk__weaving ?i_Clerk__weaving ?l_Clerk__weaving ?c_Clerk__weaving ?k_Clerk__weaving ?a__law_least ?l__law_least ?c__law_least ?k__law_least ?a__law_greater ?l__law_greater ?c__law_greater ?k__law_greater ?a__law_lesser ?l__law_lesser ?c__law_lesser ?k__law_lesser ?a__law_head ?l__law_head ?c__law_head ?k__law_head ?a__law_sums ?l__law_sums ?c__law_sums ?k__law_sums ?a__law_anew ?l__law_anew ?c__law_anew ?k__law_anew ?a_law ?l_law ?c_law ?k_law ?b_bool ?b_enumerate ?b_int ?b_isinstance ?b_len ?b_list ?b_max ?b_min ?b_range ?b_sorted ?b_sum ?b_tuple ?v_MOST_BATCHES_safety ?v_MOST_BATCHES_tapes ?v_MOST_CELLS_moments ?v_MOST_CELLS_tapes ?v_MOST_FATE ?v_MOST_NUMBERS ?v_MOST_PRIME ?v_MOST_ROWS ?v_MOST_SHELVES_books ?v_MOST_SHELVES_grounds
    (case aC_BadBook => k_is)
    (case lC_BadBook => k_is)
    (case rC_BadBook => decide +kernel)
    (case sa_BadBook => k_is)
    (case ga_BadBook => k_is)
    (case gg_BadBook => k_is)
    (case nw_BadBook => k_is)
    (case kC_BadBook => k_is)
    (case eC_BadBook => k_is)
    (case tC_BadBook => k_is)
    (case hC_BadBook => k_is)
    (case iC_BadBook => k_is)
    (case aC_BadGround => k_is)
    (case lC_BadGround => k_is)
    (case rC_BadGround => decide +kernel)
    (case sa_BadGround => k_is)
    (case ga_BadGround => k_is)
    (case gg_BadGround => k_is)
    (case nw_BadGround => k_is)
    (case kC_BadGround => k_is)
    (case eC_BadGround => k_is)
    (case tC_BadGround => k_is)
    (case hC_BadGround => k_is)
    (case iC_BadGround => k_is)
    (case aC_BadMany => k_is)
    (case lC_BadMany => k_is)
    (case rC_BadMany => decide +kernel)
    (case sa_BadMany => k_is)
    (case ga_BadMany => k_is)
    (case gg_BadMany => k_is)
    (case nw_BadMany => k_is)
    (case kC_BadMany => k_is)
    (case eC_BadMany => k_is)
    (case tC_BadMany => k_is)
    (case hC_BadMany => k_is)
    (case iC_BadMany => k_is)
    (case aC_BadNumber => k_is)
    (case lC_BadNumber => k_is)
    (case rC_BadNumber => decide +kernel)
    (case sa_BadNumber => k_is)
    (case ga_BadNumber => k_is)
    (case gg_BadNumber => k_is)
    (case nw_BadNumber => k_is)
    (case kC_BadNumber => k_is)
    (case eC_BadNumber => k_is)
    (case tC_BadNumber => k_is)
    (case hC_BadNumber => k_is)
    (case iC_BadNumber => k_is)
    (case aC_BadShelf => k_is)
    (case lC_BadShelf => k_is)
    (case rC_BadShelf => decide +kernel)
    (case sa_BadShelf => k_is)
    (case ga_BadShelf => k_is)
    (case gg_BadShelf => k_is)
    (case nw_BadShelf => k_is)
    (case kC_BadShelf => k_is)
    (case eC_BadShelf => k_is)
    (case tC_BadShelf => k_is)
    (case hC_BadShelf => k_is)
    (case iC_BadShelf => k_is)
    (case aC_BadTold => k_is)
    (case lC_BadTold => k_is)
    (case rC_BadTold => decide +kernel)
    (case sa_BadTold => k_is)
    (case ga_BadTold => k_is)
    (case gg_BadTold => k_is)
    (case nw_BadTold => k_is)
    (case kC_BadTold => k_is)
    (case eC_BadTold => k_is)
    (case tC_BadTold => k_is)
    (case hC_BadTold => k_is)
    (case iC_BadTold => k_is)
    (case aC_BadWeaving => k_is)
    (case lC_BadWeaving => k_is)
    (case rC_BadWeaving => decide +kernel)
    (case sa_BadWeaving => k_is)
    (case ga_BadWeaving => k_is)
    (case gg_BadWeaving => k_is)
    (case nw_BadWeaving => k_is)
    (case kC_BadWeaving => k_is)
    (case eC_BadWeaving => k_is)
    (case tC_BadWeaving => k_is)
    (case hC_BadWeaving => k_is)
    (case iC_BadWeaving => k_is)
    (case aC_Full => k_is)
    (case lC_Full => k_is)
    (case rC_Full => decide +kernel)
    (case sa_Full => k_is)
    (case ga_Full => k_is)
    (case gg_Full => k_is)
    (case nw_Full => k_is)
    (case kC_Full => k_is)
    (case eC_Full => k_is)
    (case tC_Full => k_is)
    (case hC_Full => k_is)
    (case iC_Full => k_is)
    (case aC_TooMany => k_is)
    (case lC_TooMany => k_is)
    (case rC_TooMany => decide +kernel)
    (case sa_TooMany => k_is)
    (case ga_TooMany => k_is)
    (case gg_TooMany => k_is)
    (case nw_TooMany => k_is)
    (case kC_TooMany => k_is)
    (case eC_TooMany => k_is)
    (case tC_TooMany => k_is)
    (case hC_TooMany => k_is)
    (case iC_TooMany => k_is)
    (case tI => k_is)
    (case lI => k_is)
    (case cI => k_is)
    (case kI => k_is)
    (case aC_Clerk => k_is)
    (case pg_Clerk => k_is)
    (case hd_Clerk => k_is)
    (case po_Clerk => k_is)
    (case sa_Clerk => k_is)
    (case mk_Clerk => k_is)
    (case kC_Clerk => k_is)
    (case nf_Clerk_book => k_is)
    (case nf_Clerk_ground => k_is)
    (case nf_Clerk_safe_now => k_is)
    (case nf_Clerk_tapes => k_is)
    (case nf_Clerk_unsafe => k_is)
    (case a__law_pool => k_is)
    (case l__law_pool => k_is)
    (case c__law_pool => k_is)
    (case k__law_pool => k_is)
    (case a__law_draw => k_is)
    (case l__law_draw => k_is)
    (case c__law_draw => k_is)
    (case k__law_draw => k_is)
    (case a__law_pick => k_is)
    (case l__law_pick => k_is)
    (case c__law_pick => k_is)
    (case k__law_pick => k_is)
    (case a__law_turned => k_is)
    (case l__law_turned => k_is)
    (case c__law_turned => k_is)
    (case k__law_turned => k_is)
    (case a__law_ground => k_is)
    (case l__law_ground => k_is)
    (case c__law_ground => k_is)
    (case k__law_ground => k_is)
    (case a__law_bound => k_is)
    (case l__law_bound => k_is)
    (case c__law_bound => k_is)
    (case k__law_bound => k_is)
    (case a__law_row => k_is)
    (case l__law_row => k_is)
    (case c__law_row => k_is)
    (case k__law_row => k_is)
    (case a__law_book => k_is)
    (case l__law_book => k_is)
    (case c__law_book => k_is)
    (case k__law_book => k_is)
    (case a_is_whole => k_is)
    (case l_is_whole => k_is)
    (case c_is_whole => k_is)
    (case k_is_whole => k_is)
    (case a_is_prime => k_is)
    (case l_is_prime => k_is)
    (case c_is_prime => k_is)
    (case k_is_prime => k_is)
    (case a_are_points => k_is)
    (case l_are_points => k_is)
    (case c_are_points => k_is)
    (case k_are_points => k_is)
    (case a_made_ground => k_is)
    (case l_made_ground => k_is)
    (case c_made_ground => k_is)
    (case k_made_ground => k_is)
    (case a_is_below => k_is)
    (case l_is_below => k_is)
    (case c_is_below => k_is)
    (case k_is_below => k_is)
    (case a_is_bound => k_is)
    (case l_is_bound => k_is)
    (case c_is_bound => k_is)
    (case k_is_bound => k_is)
    (case a_is_fate => k_is)
    (case l_is_fate => k_is)
    (case c_is_fate => k_is)
    (case k_is_fate => k_is)
    (case a_is_row => k_is)
    (case l_is_row => k_is)
    (case c_is_row => k_is)
    (case k_is_row => k_is)
    (case a_made_book => k_is)
    (case l_made_book => k_is)
    (case c_made_book => k_is)
    (case k_made_book => k_is)
    (case a_shelves => k_is)
    (case l_shelves => k_is)
    (case c_shelves => k_is)
    (case k_shelves => k_is)
    (case a_Clerk____init__ => k_is)
    (case i_Clerk____init__ => k_is)
    (case l_Clerk____init__ => k_is)
    (case c_Clerk____init__ => k_is)
    (case k_Clerk____init__ => k_is)
    (case a_met => k_is)
    (case l_met => k_is)
    (case c_met => k_is)
    (case k_met => k_is)
    (case a_without => k_is)
    (case l_without => k_is)
    (case c_without => k_is)
    (case k_without => k_is)
    (case a_greater => k_is)
    (case l_greater => k_is)
    (case c_greater => k_is)
    (case k_greater => k_is)
    (case a_lesser => k_is)
    (case l_lesser => k_is)
    (case c_lesser => k_is)
    (case k_lesser => k_is)
    (case a_missing => k_is)
    (case l_missing => k_is)
    (case c_missing => k_is)
    (case k_missing => k_is)
    (case a_head => k_is)
    (case l_head => k_is)
    (case c_head => k_is)
    (case k_head => k_is)
    (case a_heads => k_is)
    (case l_heads => k_is)
    (case c_heads => k_is)
    (case k_heads => k_is)
    (case a_unlike_heads => k_is)
    (case l_unlike_heads => k_is)
    (case c_unlike_heads => k_is)
    (case k_unlike_heads => k_is)
    (case a_counts_ahead => k_is)
    (case l_counts_ahead => k_is)
    (case c_counts_ahead => k_is)
    (case k_counts_ahead => k_is)
    (case a_safe_among => k_is)
    (case l_safe_among => k_is)
    (case c_safe_among => k_is)
    (case o_safe_among => k_is)
    (case p11_safe_among => exact rfl)
    (case e11_safe_among => exact rfl)
    (case e18_safe_among => exact rfl)
    (case e7_safe_among => exact rfl)
    (case e9_safe_among => exact rfl)
    (case e10_safe_among => exact rfl)
    (case ne_safe_among => decide)
    (case kn_safe_among => exact rfl)
    (case rec_safe_among => decide +kernel)
    (case k_safe_among => k_is)
    (case a_Clerk__safe_of => k_is)
    (case i_Clerk__safe_of => k_is)
    (case l_Clerk__safe_of => k_is)
    (case c_Clerk__safe_of => k_is)
    (case k_Clerk__safe_of => k_is)
    (case a_Clerk__reckon_anew => k_is)
    (case i_Clerk__reckon_anew => k_is)
    (case l_Clerk__reckon_anew => k_is)
    (case c_Clerk__reckon_anew => k_is)
    (case k_Clerk__reckon_anew => k_is)
    (case a_Clerk__change => k_is)
    (case i_Clerk__change => k_is)
    (case l_Clerk__change => k_is)
    (case c_Clerk__change => k_is)
    (case k_Clerk__change => k_is)
    (case a_is_number => k_is)
    (case l_is_number => k_is)
    (case c_is_number => k_is)
    (case k_is_number => k_is)
    (case a_Clerk__check_shelf => k_is)
    (case i_Clerk__check_shelf => k_is)
    (case l_Clerk__check_shelf => k_is)
    (case c_Clerk__check_shelf => k_is)
    (case k_Clerk__check_shelf => k_is)
    (case a_Clerk__lost => k_is)
    (case i_Clerk__lost => k_is)
    (case l_Clerk__lost => k_is)
    (case c_Clerk__lost => k_is)
    (case k_Clerk__lost => k_is)
    (case a_Clerk__write => k_is)
    (case i_Clerk__write => k_is)
    (case l_Clerk__write => k_is)
    (case c_Clerk__write => k_is)
    (case k_Clerk__write => k_is)
    (case a_Clerk__done => k_is)
    (case i_Clerk__done => k_is)
    (case l_Clerk__done => k_is)
    (case c_Clerk__done => k_is)
    (case k_Clerk__done => k_is)
    (case a_check_told => k_is)
    (case l_check_told => k_is)
    (case c_check_told => k_is)
    (case k_check_told => k_is)
    (case a_is_tape => k_is)
    (case l_is_tape => k_is)
    (case c_is_tape => k_is)
    (case k_is_tape => k_is)
    (case a_made_weaving => k_is)
    (case l_made_weaving => k_is)
    (case c_made_weaving => k_is)
    (case k_made_weaving => k_is)
    (case a_checked => k_is)
    (case l_checked => k_is)
    (case c_checked => k_is)
    (case k_checked => k_is)
    (case a_done => k_is)
    (case l_done => k_is)
    (case c_done => k_is)
    (case k_done => k_is)
    (case a_Clerk__weaving => k_is)
    (case i_Clerk__weaving => k_is)
    (case l_Clerk__weaving => k_is)
    (case c_Clerk__weaving => k_is)
    (case k_Clerk__weaving => k_is)
    (case a__law_least => k_is)
    (case l__law_least => k_is)
    (case c__law_least => k_is)
    (case k__law_least => k_is)
    (case a__law_greater => k_is)
    (case l__law_greater => k_is)
    (case c__law_greater => k_is)
    (case k__law_greater => k_is)
    (case a__law_lesser => k_is)
    (case l__law_lesser => k_is)
    (case c__law_lesser => k_is)
    (case k__law_lesser => k_is)
    (case a__law_head => k_is)
    (case l__law_head => k_is)
    (case c__law_head => k_is)
    (case k__law_head => k_is)
    (case a__law_sums => k_is)
    (case l__law_sums => k_is)
    (case c__law_sums => k_is)
    (case k__law_sums => k_is)
    (case a__law_anew => k_is)
    (case l__law_anew => k_is)
    (case c__law_anew => k_is)
    (case k__law_anew => k_is)
    (case a_law => k_is)
    (case l_law => k_is)
    (case c_law => k_is)
    (case k_law => k_is)
    (case b_bool => k_is)
    (case b_enumerate => k_is)
    (case b_int => k_is)
    (case b_isinstance => k_is)
    (case b_len => k_is)
    (case b_list => k_is)
    (case b_max => k_is)
    (case b_min => k_is)
    (case b_range => k_is)
    (case b_sorted => k_is)
    (case b_sum => k_is)
    (case b_tuple => k_is)
    (case v_MOST_BATCHES_safety => k_is)
    (case v_MOST_BATCHES_tapes => k_is)
    (case v_MOST_CELLS_moments => k_is)
    (case v_MOST_CELLS_tapes => k_is)
    (case v_MOST_FATE => k_is)
    (case v_MOST_NUMBERS => k_is)
    (case v_MOST_PRIME => k_is)
    (case v_MOST_ROWS => k_is)
    (case v_MOST_SHELVES_books => k_is)
    (case v_MOST_SHELVES_grounds => k_is)
#print axioms PySem.Challenge.cw_firstsafe_k54_clerk_beside_another_holds
