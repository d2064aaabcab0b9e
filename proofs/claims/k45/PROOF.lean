import PyProof.Rows.All
import Wide.All
import OpenK.AllK
import Wide.FinOn
import HandS.ForMost
import HandS.Exc
import HandS.ExcOwn
import HandS.WordsExc
import HandS.TupAny
import HandS.Deep
import HandS.Conv
import HandS.TupLen
import HandS.Zip
import HandS.IsInst
import HandS.WordsDict
import HandS.SortInts
import HandS.SortRule
import HandS.TupLe
import HandS.More
import KE.SortData
import HandS.ExcValue
import HandS.ExcIs
import KE.SortKeyHeap
import HandS.Nested
import HandS.EndOwn
import PySem.Challenge.RW_guardround_k45_whole_calls_from_a_set_ap
set_option Elab.async false
set_option linter.all false
set_option maxRecDepth 100000
set_option maxHeartbeats 4000000
namespace S
open PySem PySem.Spec PyProof.Rows L2

/-! ### data -/
inductive D where
  | non | bl (b : Bool) | int (i : Int) | str (x : Str)
  | lst (ds : List D) | tup (ds : List D)
  | dK (kvs : List (Key × D)) | dT (kvs : List (List Key × D))
  | obj (p t : D)
  | exo (c : Str) (n : Option Int)

/-- what is told, what is raised (class, its number), or nothing is promised -/
inductive R (α : Type) where
  | ok (a : α) | exc (c : Str) (r : Option Int) | bad
namespace R
def bind {α β : Type} (r : R α) (k : α → R β) : R β := match r with
  | .ok a => k a
  | .exc c r => .exc c r
  | .bad => .bad
def map {α β : Type} (f : α → β) (r : R α) : R β := match r with
  | .ok a => .ok (f a)
  | .exc c r => .exc c r
  | .bad => .bad
def ofO {α : Type} : Option α → R α
  | some a => .ok a
  | none => .bad
@[simp] theorem bind_ok {α β : Type} (a : α) (k : α → R β) : (R.ok a).bind k = k a := rfl
@[simp] theorem bind_exc {α β : Type} (c : Str) (r : Option Int) (k : α → R β) : (R.exc c r : R α).bind k = .exc c r := rfl
@[simp] theorem bind_bad {α β : Type} (k : α → R β) : (R.bad : R α).bind k = .bad := rfl
@[simp] theorem map_ok {α β : Type} (a : α) (k : α → β) : (R.ok a).map k = .ok (k a) := rfl
@[simp] theorem map_exc {α β : Type} (c : Str) (r : Option Int) (k : α → β) : (R.exc c r : R α).map k = .exc c r := rfl
@[simp] theorem map_bad {α β : Type} (k : α → β) : (R.bad : R α).map k = .bad := rfl
@[simp] theorem ofO_some {α : Type} (a : α) : ofO (some a) = .ok a := rfl
@[simp] theorem ofO_none {α : Type} : ofO (none : Option α) = .bad := rfl
end R

/-- what an owned thing holds -/
inductive Own where
  | lst (ds : List D) | dK (kvs : List (Key × D)) | dT (kvs : List (List Key × D))
def Own.d : Own → D
  | .lst ds => .lst ds
  | .dK kvs => .dK kvs
  | .dT kvs => .dT kvs
/-- a slot: data that stands still, a thing of one's own, or just a value -/
inductive Sl where
  | fr (d : D) | ow (q : Option Addr) (c : Own) | raw (v : V)
abbrev DEnv := List (Option Sl)

/-- what the text is taken with: the written part, the names, the class of webs -/
structure Par where
  K : PySem.W.Frag
  mg : Str → Option Value
  C : Addr

/-- a caught exception at a: its class, its dict -/
def ExT (cls : Value) (d : Option Addr) (a : Addr) : HO := .ext fun h => ∃ (oe : Obj) (vs : Array Value), h.get? a = some oe ∧ Zc cls d oe ∧ oe.data = .fields vs
/-! ### data in a heap -/
mutual
inductive Rep (G : Par) (F : Hp) : V → D → Prop
  | non : Rep G F .non .non
  | bl (b : Bool) : Rep G F (.bl b) (.bl b)
  | int (i : Int) : Rep G F (.int i) (.int i)
  | str (x : Str) : Rep G F (.str x) (.str x)
  | lst {a : Addr} {vs : List V} {ds : List D} : SqL G.K F a vs → Reps G F vs ds → Rep G F (.ref a) (.lst ds)
  | tup {a : Addr} {vs : List V} {ds : List D} : F a = some (.tup vs) → Reps G F vs ds → Rep G F (.ref a) (.tup ds)
  | dK {a : Addr} {kvs : List (Key × V)} {ds : List (Key × D)} : Rd F a (.dK kvs) → RepK G F kvs ds → Rep G F (.ref a) (.dK ds)
  | dT {a : Addr} {kvs : List (List Key × V)} {ds : List (List Key × D)} : Rd F a (.dT kvs) → RepT G F kvs ds → Rep G F (.ref a) (.dT ds)
  | obj {a dx : Addr} {fs : List (Str × V)} {p t : V} {dp dt : D} : F a = some (.ins G.C dx fs) → fs.lookup ("places" : Str) = some p → fs.lookup ("ties" : Str) = some t → Rep G F p dp → Rep G F t dt → Rep G F (.ref a) (.obj dp dt)
  | ex0 {a : Addr} {cls : Value} {c : Str} : F a = some (ExT cls none a) → G.mg c = some cls → Rep G F (.ref a) (.exo c none)
  | ex1 {a dd : Addr} {cls : Value} {c : Str} {i : Int} : F a = some (ExT cls (some dd) a) → G.mg c = some cls → F dd = some (.xd [(("row" : Str), .int i)]) → Rep G F (.ref a) (.exo c (some i))
inductive Reps (G : Par) (F : Hp) : List V → List D → Prop
  | nil : Reps G F [] []
  | cons {v : V} {vs : List V} {d : D} {ds : List D} : Rep G F v d → Reps G F vs ds → Reps G F (v :: vs) (d :: ds)
inductive RepK (G : Par) (F : Hp) : List (Key × V) → List (Key × D) → Prop
  | nil : RepK G F [] []
  | cons {k : Key} {v : V} {vs : List (Key × V)} {d : D} {ds : List (Key × D)} : Rep G F v d → RepK G F vs ds → RepK G F ((k, v) :: vs) ((k, d) :: ds)
inductive RepT (G : Par) (F : Hp) : List (List Key × V) → List (List Key × D) → Prop
  | nil : RepT G F [] []
  | cons {k : List Key} {v : V} {vs : List (List Key × V)} {d : D} {ds : List (List Key × D)} : Rep G F v d → RepT G F vs ds → RepT G F ((k, v) :: vs) ((k, d) :: ds)
end

theorem same_rd {F F' : Hp} {a : Addr} {u : HO} (e : Same F F') (h : Rd F a u) : Rd F' a u := by
  rcases h with h | ⟨o, h⟩
  · exact .inl (e _ _ h)
  · exact .inr ⟨o, e _ _ h⟩
theorem same_sqL {K : PySem.W.Frag} {F F' : Hp} {a : Addr} {vs : List V} (e : Same F F') (h : SqL K F a vs) : SqL K F' a vs := h.imp (same_rd e) id
theorem same_sqT {K : PySem.W.Frag} {F F' : Hp} {a : Addr} {vs : List V} (e : Same F F') (h : SqT K F a vs) : SqT K F' a vs := h.imp (same_rd e) id

section
variable {G : Par} {F F' H H' : Hp}
mutual
theorem Rep.mono (e : Same F F') : ∀ {v : V} {d : D}, Rep G F v d → Rep G F' v d
  | _, _, .non => .non
  | _, _, .bl b => .bl b
  | _, _, .int i => .int i
  | _, _, .str x => .str x
  | _, _, .lst h r => .lst (same_sqL e h) (Reps.mono e r)
  | _, _, .tup h r => .tup (e _ _ h) (Reps.mono e r)
  | _, _, .dK h r => .dK (same_rd e h) (RepK.mono e r)
  | _, _, .dT h r => .dT (same_rd e h) (RepT.mono e r)
  | _, _, .obj h hp ht p t => .obj (e _ _ h) hp ht (Rep.mono e p) (Rep.mono e t)
  | _, _, .ex0 h m => .ex0 (e _ _ h) m
  | _, _, .ex1 h m x => .ex1 (e _ _ h) m (e _ _ x)
theorem Reps.mono (e : Same F F') : ∀ {vs : List V} {ds : List D}, Reps G F vs ds → Reps G F' vs ds
  | _, _, .nil => .nil
  | _, _, .cons h r => .cons (Rep.mono e h) (Reps.mono e r)
theorem RepK.mono (e : Same F F') : ∀ {vs : List (Key × V)} {ds : List (Key × D)}, RepK G F vs ds → RepK G F' vs ds
  | _, _, .nil => .nil
  | _, _, .cons h r => .cons (Rep.mono e h) (RepK.mono e r)
theorem RepT.mono (e : Same F F') : ∀ {vs : List (List Key × V)} {ds : List (List Key × D)}, RepT G F vs ds → RepT G F' vs ds
  | _, _, .nil => .nil
  | _, _, .cons h r => .cons (Rep.mono e h) (RepT.mono e r)
end
theorem Reps.length : ∀ {vs : List V} {ds : List D}, Reps G F vs ds → vs.length = ds.length
  | _, _, .nil => rfl
  | _, _, .cons _ r => congrArg (· + 1) (Reps.length r)
theorem Reps.append : ∀ {vs : List V} {ds : List D} {ws : List V} {es : List D}, Reps G F vs ds → Reps G F ws es → Reps G F (vs ++ ws) (ds ++ es)
  | _, _, _, _, .nil, r => r
  | _, _, _, _, .cons h r, r' => .cons h (Reps.append r r')
theorem Reps.get : ∀ {vs : List V} {ds : List D} (i : Nat) {d : D}, Reps G F vs ds → ds[i]? = some d → ∃ v, vs[i]? = some v ∧ Rep G F v d
  | _, _, _, _, .nil, e => by simp at e
  | _, _, 0, _, .cons h _, e => by simp at e; subst e; exact ⟨_, rfl, h⟩
  | _, _, i + 1, _, .cons _ r, e => by
    obtain ⟨v, e1, h1⟩ := Reps.get i r (by simpa using e)
    exact ⟨v, by simpa using e1, h1⟩
theorem Reps.getV : ∀ {vs : List V} {ds : List D} (i : Nat) {v : V}, Reps G F vs ds → vs[i]? = some v → ∃ d, ds[i]? = some d ∧ Rep G F v d
  | _, _, _, _, .nil, e => by simp at e
  | _, _, 0, _, .cons h _, e => by simp at e; subst e; exact ⟨_, rfl, h⟩
  | _, _, i + 1, _, .cons _ r, e => by
    obtain ⟨v, e1, h1⟩ := Reps.getV i r (by simpa using e)
    exact ⟨v, by simpa using e1, h1⟩
theorem Reps.take : ∀ {vs : List V} {ds : List D} (n : Nat), Reps G F vs ds → Reps G F (vs.take n) (ds.take n)
  | _, _, 0, _ => by simpa using Reps.nil
  | _, _, _ + 1, .nil => by simpa using Reps.nil
  | _, _, n + 1, .cons h r => by simpa using Reps.cons h (Reps.take n r)
theorem Reps.drop : ∀ {vs : List V} {ds : List D} (n : Nat), Reps G F vs ds → Reps G F (vs.drop n) (ds.drop n)
  | _, _, 0, r => by simpa using r
  | _, _, _ + 1, .nil => by simpa using Reps.nil
  | _, _, n + 1, .cons _ r => by simpa using Reps.drop n r
theorem Reps.reverse : ∀ {vs : List V} {ds : List D}, Reps G F vs ds → Reps G F vs.reverse ds.reverse
  | _, _, .nil => by simpa using Reps.nil
  | _, _, .cons h r => by simpa using Reps.append (Reps.reverse r) (.cons h .nil)
theorem Reps.ints : ∀ {ns : List Int} {vs : List V}, Reps G F vs (ns.map D.int) → vs = ns.map V.int
  | [], _, h => by cases h; rfl
  | n :: ns, _, h => by
    cases h with
    | cons h r => cases h; rw [Reps.ints r]; rfl
theorem Reps.of_ints : ∀ (ns : List Int), Reps G F (ns.map V.int) (ns.map D.int)
  | [] => .nil
  | n :: ns => .cons (.int n) (Reps.of_ints ns)
theorem Reps.bls : ∀ {bs : List Bool} {vs : List V}, Reps G F vs (bs.map D.bl) → vs = bs.map V.bl
  | [], _, h => by cases h; rfl
  | n :: ns, _, h => by
    cases h with
    | cons h r => cases h; rw [Reps.bls r]; rfl
theorem Reps.strs : ∀ {bs : List Str} {vs : List V}, Reps G F vs (bs.map D.str) → vs = bs.map V.str
  | [], _, h => by cases h; rfl
  | n :: ns, _, h => by
    cases h with
    | cons h r => cases h; rw [Reps.strs r]; rfl
theorem Reps.of_strs : ∀ (ns : List Str), Reps G F (ns.map V.str) (ns.map D.str)
  | [] => .nil
  | n :: ns => .cons (.str n) (Reps.of_strs ns)

/-- read where it stands, its parts standing still -/
def Bor (G : Par) (F H : Hp) (v : V) : D → Prop
  | .lst ds => ∃ a vs, v = .ref a ∧ SqL G.K H a vs ∧ Reps G F vs ds
  | .dK ds => ∃ a kvs, v = .ref a ∧ Rd H a (.dK kvs) ∧ RepK G F kvs ds
  | .dT ds => ∃ a kvs, v = .ref a ∧ Rd H a (.dT kvs) ∧ RepT G F kvs ds
  | d => Rep G F v d
theorem Bor.of {v : V} {d : D} (e : Same F H) (h : Rep G F v d) : Bor G F H v d := by
  cases h with
  | lst h r => exact ⟨_, _, rfl, same_sqL e h, r⟩
  | tup h r => exact .tup h r
  | dK h r => exact ⟨_, _, rfl, same_rd e h, r⟩
  | dT h r => exact ⟨_, _, rfl, same_rd e h, r⟩
  | non => exact .non
  | bl b => exact .bl b
  | int i => exact .int i
  | str x => exact .str x
  | obj h hp ht p t => exact .obj h hp ht p t
  | ex0 h m => exact .ex0 h m
  | ex1 h m x => exact .ex1 h m x
theorem Bor.mono {v : V} {d : D} (e : Same F F') (e' : Same H H') (h : Bor G F H v d) : Bor G F' H' v d := by
  cases d with
  | lst ds => obtain ⟨a, vs, rfl, h, r⟩ := h; exact ⟨a, vs, rfl, same_sqL e' h, r.mono e⟩
  | tup ds => exact Rep.mono e h
  | dK ds => obtain ⟨a, vs, rfl, h, r⟩ := h; exact ⟨a, vs, rfl, same_rd e' h, r.mono e⟩
  | dT ds => obtain ⟨a, vs, rfl, h, r⟩ := h; exact ⟨a, vs, rfl, same_rd e' h, r.mono e⟩
  | non => exact Rep.mono e h
  | bl b => exact Rep.mono e h
  | int i => exact Rep.mono e h
  | str x => exact Rep.mono e h
  | obj p t => exact Rep.mono e h
  | exo c n => exact Rep.mono e h
/-- several -/
inductive Bors (G : Par) (F H : Hp) : List V → List D → Prop
  | nil : Bors G F H [] []
  | cons {v : V} {vs : List V} {d : D} {ds : List D} : Bor G F H v d → Bors G F H vs ds → Bors G F H (v :: vs) (d :: ds)
theorem Bors.of (e : Same F H) : ∀ {vs : List V} {ds : List D}, Reps G F vs ds → Bors G F H vs ds
  | _, _, .nil => .nil
  | _, _, .cons h r => .cons (Bor.of e h) (Bors.of e r)
theorem Bors.mono (e : Same F F') (e' : Same H H') : ∀ {vs : List V} {ds : List D}, Bors G F H vs ds → Bors G F' H' vs ds
  | _, _, .nil => .nil
  | _, _, .cons h r => .cons (h.mono e e') (Bors.mono e e' r)

/-- a thing of one's own at p -/
def OwnAt (G : Par) (F H : Hp) (p : Addr) : Own → Prop
  | .lst ds => ∃ vs, H p = some (.lst vs) ∧ Reps G F vs ds
  | .dK ds => ∃ kvs, H p = some (.dK kvs) ∧ RepK G F kvs ds
  | .dT ds => ∃ kvs, H p = some (.dT kvs) ∧ RepT G F kvs ds
theorem OwnAt.bor {p : Addr} {c : Own} (h : OwnAt G F H p c) : Bor G F H (.ref p) c.d := by
  cases c with
  | lst ds => obtain ⟨vs, h, r⟩ := h; exact ⟨p, vs, rfl, .of h, r⟩
  | dK ds => obtain ⟨vs, h, r⟩ := h; exact ⟨p, vs, rfl, .of h, r⟩
  | dT ds => obtain ⟨vs, h, r⟩ := h; exact ⟨p, vs, rfl, .of h, r⟩
theorem OwnAt.mono {p : Addr} {c : Own} (e : Same F F') (e' : H' p = H p) (h : OwnAt G F H p c) : OwnAt G F' H' p c := by
  cases c with
  | lst ds => obtain ⟨vs, h, r⟩ := h; exact ⟨vs, e'.trans h, r.mono e⟩
  | dK ds => obtain ⟨vs, h, r⟩ := h; exact ⟨vs, e'.trans h, r.mono e⟩
  | dT ds => obtain ⟨vs, h, r⟩ := h; exact ⟨vs, e'.trans h, r.mono e⟩
theorem OwnAt.there {p : Addr} {c : Own} (h : OwnAt G F H p c) : ∃ o, H p = some o := by
  cases c with
  | lst ds => obtain ⟨vs, h, _⟩ := h; exact ⟨_, h⟩
  | dK ds => obtain ⟨vs, h, _⟩ := h; exact ⟨_, h⟩
  | dT ds => obtain ⟨vs, h, _⟩ := h; exact ⟨_, h⟩
end

theorem OwnAt.notTbl {G : Par} {F H : Hp} {p : Addr} {c : Own} {ps : Array Value} (h : OwnAt G F H p c) (e : H p = some (.tbl ps)) : False := by
  cases c with
  | lst ds => obtain ⟨vs, h, _⟩ := h; rw [e] at h; cases h
  | dK ds => obtain ⟨vs, h, _⟩ := h; rw [e] at h; cases h
  | dT ds => obtain ⟨vs, h, _⟩ := h; rw [e] at h; cases h
/-! ### a state of plain data -/
/-- what a slot's value is -/
def SlAt (G : Par) (H0 F H : Hp) (x : Sl) (v : V) : Prop := match x with
  | .fr d => Rep G F v d
  | .ow q c => ∃ p, v = .ref p ∧ (∀ p', q = some p' → p' = p) ∧ H0 p = none ∧ F p = none ∧ OwnAt G F H p c
  | .raw u => v = u
/-- H0: the heap at the entry, which stays; F0, F: what stands still in it, at the entry and now -/
structure SR (G : Par) (H0 F0 F H : Hp) (σ : L2.St) (env : DEnv) : Prop where
  h0 : Same H0 H
  f0 : Same F0 F
  fh : Same F H
  fn : ∀ p, H0 p ≠ none → F p = F0 p
  nt : ∀ p ps, F p ≠ some (.tbl ps)
  len : env.length = σ.length
  sl : ∀ (i : Nat) (x : Sl), env[i]? = some (some x) → ∃ v, σ[i]? = some (some v) ∧ SlAt G H0 F H x v
  ds : ∀ (i j : Nat) (qi qj : Option Addr) (ci cj : Own) (p : Addr), i ≠ j → env[i]? = some (some (.ow qi ci)) → env[j]? = some (some (.ow qj cj)) → σ[i]? = some (some (.ref p)) → σ[j]? = some (some (.ref p)) → False

/-- both heaps have grown: what is new stands still -/
structure Ext (F H F' H' : Hp) : Prop where
  f : Same F F'
  h : Same H H'
  fh : Same F' H'
  n : ∀ p, H p ≠ none → F' p = F p
  nt : (∀ p ps, F p ≠ some (.tbl ps)) → ∀ p ps, F' p ≠ some (.tbl ps)
theorem Ext.refl {F H : Hp} (e : Same F H) : Ext F H F H := ⟨.refl _, .refl _, e, fun _ _ => rfl, id⟩
theorem Ext.trans {F H F1 H1 F2 H2 : Hp} (a : Ext F H F1 H1) (b : Ext F1 H1 F2 H2) : Ext F H F2 H2 :=
  ⟨a.f.trans b.f, a.h.trans b.h, b.fh, fun p n => (b.n p fun z => by
    cases e : H p with
    | none => exact n e
    | some o => rw [a.h p o e] at z; cases z).trans (a.n p n), fun h => b.nt (a.nt h)⟩
theorem Ext.new {F H : Hp} {p : Addr} {o : HO} (e : Same F H) (h : H p = none) (no : ∀ ps, o ≠ .tbl ps := by intro _; nofun) : Ext F H (upd F p o) (upd H p o) := by
  have hF : F p = none := e.free h
  refine ⟨fun b u q => ?_, fun b u q => ?_, fun b u q => ?_, fun b n => ?_, fun h0 b ps => ?_⟩
  · rw [upd_ne (ne_of_none q hF)]; exact q
  · rw [upd_ne (ne_of_none q h)]; exact q
  · by_cases hb : b = p
    · subst hb; rw [upd_same] at q ⊢; exact q
    · rw [upd_ne hb] at q ⊢; exact e _ _ q
  · exact upd_ne fun z => n (by rw [z]; exact h)
  · by_cases hb : b = p
    · subst hb; rw [upd_same]; exact fun z => no ps (Option.some.inj z)
    · rw [upd_ne hb]; exact h0 b ps

section
variable {G : Par} {H0 F0 F H F' H' : Hp} {σ : L2.St} {env : DEnv}
theorem SR.ext (s : SR G H0 F0 F H σ env) (e : Ext F H F' H') : SR G H0 F0 F' H' σ env := by
  have nh : ∀ p, H0 p ≠ none → H p ≠ none := fun p n z => by
    cases q : H0 p with
    | none => exact n q
    | some o => rw [s.h0 p o q] at z; cases z
  refine ⟨s.h0.trans e.h, s.f0.trans e.f, e.fh, fun p n => (e.n p (nh p n)).trans (s.fn p n), e.nt s.nt, s.len, fun i x hx => ?_, s.ds⟩
  obtain ⟨v, e1, h1⟩ := s.sl i x hx
  refine ⟨v, e1, ?_⟩
  cases x with
  | fr d => exact Rep.mono e.f h1
  | raw u => exact h1
  | ow qq c =>
    obtain ⟨p, rfl, iq, n0, nf, o⟩ := h1
    obtain ⟨ob, ho⟩ := o.there
    exact ⟨p, rfl, iq, n0, (e.n p (by rw [ho]; exact nofun)).trans nf, o.mono e.f ((e.h _ _ ho).trans ho.symm)⟩
/-- only things outside F that no slot owns have changed, or are new -/
theorem SR.heap (s : SR G H0 F0 F H σ env) (h0 : Same H0 H') (fh : Same F H') (k : ∀ (i : Nat) (qq : Option Addr) (c : Own) (p : Addr), env[i]? = some (some (.ow qq c)) → σ[i]? = some (some (.ref p)) → H' p = H p) : SR G H0 F0 F H' σ env := by
  refine ⟨h0, s.f0, fh, s.fn, s.nt, s.len, fun i x hx => ?_, s.ds⟩
  obtain ⟨v, e1, h1⟩ := s.sl i x hx
  refine ⟨v, e1, ?_⟩
  cases x with
  | fr d => exact h1
  | raw u => exact h1
  | ow qq c =>
    obtain ⟨p, rfl, iq, n0, nf, o⟩ := h1
    exact ⟨p, rfl, iq, n0, nf, o.mono (.refl _) (k i qq c p hx e1)⟩
/-- the entry set anew -/
theorem SR.rebase (s : SR G H0 F0 F H σ env) : SR G H0 F F H σ env := ⟨s.h0, .refl _, s.fh, fun _ _ => rfl, s.nt, s.len, s.sl, s.ds⟩
theorem SR.unbase {F1 : Hp} (s : SR G H0 F1 F H σ env) (f : Same F0 F1) (n : ∀ p, H0 p ≠ none → F1 p = F0 p) : SR G H0 F0 F H σ env :=
  ⟨s.h0, f.trans s.f0, s.fh, fun p z => (s.fn p z).trans (n p z), s.nt, s.len, s.sl, s.ds⟩
/-- a slot set to data that stands still, or to a value -/
theorem SR.set (s : SR G H0 F0 F H σ env) {i : Nat} {x : Option Sl} {v : Option V} (hx : ∀ y, x = some y → ∃ u, v = some u ∧ SlAt G H0 F H y u ∧ ∀ qq c, y ≠ .ow qq c) : SR G H0 F0 F H (σ.set i v) (env.set i x) := by
  have len : (env.set i x).length = (σ.set i v).length := by simpa using s.len
  have get : ∀ (j : Nat) (y : Sl), (env.set i x)[j]? = some (some y) → (j = i ∧ x = some y ∧ i < σ.length) ∨ (j ≠ i ∧ env[j]? = some (some y)) := fun j y e => by
    by_cases hj : j = i
    · subst hj
      by_cases hl : j < env.length
      · rw [List.getElem?_set_self hl] at e
        exact .inl ⟨rfl, Option.some.inj e, by rw [← s.len]; exact hl⟩
      · rw [List.getElem?_eq_none (by simpa using hl)] at e; cases e
    · rw [List.getElem?_set_ne (Ne.symm hj)] at e
      exact .inr ⟨hj, e⟩
  refine ⟨s.h0, s.f0, s.fh, s.fn, s.nt, len, fun j y e => ?_, fun j k qj qk cj ck p hjk ej ek vj vk => ?_⟩
  · rcases get j y e with ⟨rfl, e1, hl⟩ | ⟨hj, e1⟩
    · obtain ⟨u, e2, h2, _⟩ := hx y e1
      exact ⟨u, by rw [List.getElem?_set_self hl, e2], h2⟩
    · obtain ⟨u, e2, h2⟩ := s.sl j y e1
      exact ⟨u, by rw [List.getElem?_set_ne (Ne.symm hj)]; exact e2, h2⟩
  · rcases get j _ ej with ⟨_, e1, _⟩ | ⟨hj, e1⟩
    · obtain ⟨_, _, _, n⟩ := hx _ e1
      exact n _ _ rfl
    · rcases get k _ ek with ⟨_, e2, _⟩ | ⟨hk, e2⟩
      · obtain ⟨_, _, _, n⟩ := hx _ e2
        exact n _ _ rfl
      · rw [List.getElem?_set_ne (Ne.symm hj)] at vj
        rw [List.getElem?_set_ne (Ne.symm hk)] at vk
        exact s.ds j k qj qk cj ck p hjk e1 e2 vj vk
theorem SR.setD (s : SR G H0 F0 F H σ env) {i : Nat} {d : D} {v : V} (h : Rep G F v d) : SR G H0 F0 F H (σ.set i (some v)) (env.set i (some (.fr d))) :=
  s.set fun y e => by cases e; exact ⟨v, rfl, h, fun _ _ => nofun⟩
/-- a slot forgotten -/
theorem SR.forget (s : SR G H0 F0 F H σ env) (i : Nat) : SR G H0 F0 F H σ (env.set i none) := by
  refine ⟨s.h0, s.f0, s.fh, s.fn, s.nt, by simpa using s.len, fun j y e => ?_, fun j k qj qk cj ck p hjk ej ek vj vk => ?_⟩
  · have hj : j ≠ i := by
      rintro rfl
      by_cases hl : j < env.length
      · rw [List.getElem?_set_self hl] at e; cases e
      · rw [List.getElem?_eq_none (by simpa using hl)] at e; cases e
    rw [List.getElem?_set_ne (Ne.symm hj)] at e
    exact s.sl j y e
  · have ne : ∀ (m : Nat) (qq : Option Addr) (c : Own), (env.set i none)[m]? = some (some (.ow qq c)) → env[m]? = some (some (.ow qq c)) := fun m qq c e => by
      by_cases hm : m = i
      · subst hm
        by_cases hl : m < env.length
        · rw [List.getElem?_set_self hl] at e; cases e
        · rw [List.getElem?_eq_none (by simpa using hl)] at e; cases e
      · rw [List.getElem?_set_ne (Ne.symm hm)] at e
        exact e
    exact s.ds j k qj qk cj ck p hjk (ne _ _ _ ej) (ne _ _ _ ek) vj vk
/-- a slot set to a new thing of one's own -/
theorem SR.setO (s : SR G H0 F0 F H σ env) {i : Nat} {p : Addr} {q0 : Option Addr} {c : Own} (iq : ∀ p', q0 = some p' → p' = p) (n0 : H0 p = none) (nf : F p = none) (o : OwnAt G F H p c)
    (nw : ∀ (j : Nat) (qj : Option Addr) (cj : Own), j ≠ i → env[j]? = some (some (.ow qj cj)) → σ[j]? ≠ some (some (.ref p))) : SR G H0 F0 F H (σ.set i (some (.ref p))) (env.set i (some (.ow q0 c))) := by
  have get : ∀ (j : Nat) (y : Sl), (env.set i (some (.ow q0 c)))[j]? = some (some y) → (j = i ∧ y = .ow q0 c ∧ i < σ.length) ∨ (j ≠ i ∧ env[j]? = some (some y)) := fun j y e => by
    by_cases hj : j = i
    · subst hj
      by_cases hl : j < env.length
      · rw [List.getElem?_set_self hl] at e
        exact .inl ⟨rfl, (Option.some.inj (Option.some.inj e)).symm, by rw [← s.len]; exact hl⟩
      · rw [List.getElem?_eq_none (by simpa using hl)] at e; cases e
    · rw [List.getElem?_set_ne (Ne.symm hj)] at e
      exact .inr ⟨hj, e⟩
  refine ⟨s.h0, s.f0, s.fh, s.fn, s.nt, by simpa using s.len, fun j y e => ?_, fun j k qj qk cj ck q hjk ej ek vj vk => ?_⟩
  · rcases get j y e with ⟨rfl, rfl, hl⟩ | ⟨hj, e1⟩
    · exact ⟨.ref p, List.getElem?_set_self hl, p, rfl, iq, n0, nf, o⟩
    · obtain ⟨u, e2, h2⟩ := s.sl j y e1
      exact ⟨u, by rw [List.getElem?_set_ne (Ne.symm hj)]; exact e2, h2⟩
  · rcases get j _ ej with ⟨rfl, _, hl⟩ | ⟨hj, e1⟩
    · rcases get k _ ek with ⟨rfl, _, _⟩ | ⟨hk, e2⟩
      · exact hjk rfl
      · rw [List.getElem?_set_self hl] at vj
        cases vj
        rw [List.getElem?_set_ne (Ne.symm hk)] at vk
        exact nw k qk ck hk e2 vk
    · rcases get k _ ek with ⟨rfl, _, hl⟩ | ⟨hk, e2⟩
      · rw [List.getElem?_set_self hl] at vk
        cases vk
        rw [List.getElem?_set_ne (Ne.symm hj)] at vj
        exact nw j qj cj hj e1 vj
      · rw [List.getElem?_set_ne (Ne.symm hj)] at vj
        rw [List.getElem?_set_ne (Ne.symm hk)] at vk
        exact s.ds j k qj qk cj ck q hjk e1 e2 vj vk
/-- an address that is not tracked is no slot's own -/
theorem SR.notOwn (s : SR G H0 F0 F H σ env) {p : Addr} (h : H p = none) (j : Nat) (qq : Option Addr) (c : Own) (e : env[j]? = some (some (.ow qq c))) : σ[j]? ≠ some (some (.ref p)) := fun z => by
  obtain ⟨v, e1, q, e2, _, _, _, o⟩ := s.sl j _ e
  rw [z] at e1
  cases e1
  cases e2
  obtain ⟨ob, ho⟩ := o.there
  rw [h] at ho; cases ho
theorem SR.h0none (s : SR G H0 F0 F H σ env) {p : Addr} (h : H p = none) : H0 p = none := s.h0.free h
end
end S

set_option Elab.async false
set_option linter.all false
set_option maxRecDepth 100000
set_option maxHeartbeats 4000000
namespace S
open PySem PySem.Spec PyProof.Rows L2

/-- what is raised: the class by its name, its number -/
def ExcAt (G : Par) (H : Hp) (cls : Value) (dd : Option Addr) (c : Str) (n : Option Int) : Prop :=
  G.mg c = some cls ∧ match n with
    | none => dd = none
    | some i => ∃ d, dd = some d ∧ H d = some (.xd [(("row" : Str), .int i)])

section
variable {α β γ δ : Type}
/-- the promise of a result -/
def OkE (G : Par) (W : WX) (H0 F0 F H : Hp) (σ : L2.St) (env : DEnv) (VR : Hp → Hp → β → α → Prop) (r : R α) (Q : β → Hp → Prop) : Prop := match r with
  | .ok a => ∀ F' H' b, SR G H0 F0 F' H' σ env → Same F F' → Same H H' → VR F' H' b a → Q b H'
  | .exc c n => ∀ cls dd F' H', SR G H0 F0 F' H' σ env → ExcAt G F' cls dd c n → W cls dd σ H'
  | .bad => False
/-- a reading by a function -/
def rd (G : Par) (W : WX) (VR : Hp → Hp → β → α → Prop) (f : DEnv → R α) (σ : L2.St) (H : Hp) (Q : β → Hp → Prop) : Prop :=
  ∃ H0 F0 F env, SR G H0 F0 F H σ env ∧ OkE G W H0 F0 F H σ env VR (f env) Q
variable {G : Par} {W : WX} {H0 F0 F H : Hp} {σ : L2.St} {env : DEnv} {VR : Hp → Hp → β → α → Prop} {VR' : Hp → Hp → δ → γ → Prop}
theorem OkE.grow {F1 H1 : Hp} {r : R α} {Q : β → Hp → Prop} (f : Same F F1) (h : Same H H1) (o : OkE G W H0 F0 F H σ env VR r Q) : OkE G W H0 F0 F1 H1 σ env VR r Q := by
  cases r with
  | ok a => exact fun F' H' b s f' h' v => o F' H' b s (f.trans f') (h.trans h') v
  | exc c n => exact o
  | bad => exact o
theorem OkE.step {r : R α} {k : α → R γ} {Q : δ → Hp → Prop} {T : β → Hp → Prop} (o : OkE G W H0 F0 F H σ env VR' (r.bind k) Q)
    (hk : ∀ a F1 H1 b, SR G H0 F0 F1 H1 σ env → Same F F1 → Same H H1 → VR F1 H1 b a → OkE G W H0 F0 F1 H1 σ env VR' (k a) Q → T b H1) : OkE G W H0 F0 F H σ env VR r T := by
  cases r with
  | ok a => exact fun F' H' b s f h v => hk a F' H' b s f h v (o.grow f h)
  | exc c n => exact o
  | bad => exact o
theorem OkE.fin {r : R α} {Q : β → Hp → Prop} {T : β → Hp → Prop} (o : OkE G W H0 F0 F H σ env VR r Q) (hk : ∀ b H', Q b H' → T b H') : OkE G W H0 F0 F H σ env VR r T := by
  cases r with
  | ok a => exact fun F' H' b s f h v => hk _ _ (o F' H' b s f h v)
  | exc c n => exact o
  | bad => exact o
/-- a result that is at hand -/
theorem OkE.out {r : R α} {a : α} {Q : β → Hp → Prop} {F' H' : Hp} {b : β} (o : OkE G W H0 F0 F H σ env VR r Q) (e : r = .ok a) (s : SR G H0 F0 F' H' σ env) (f : Same F F') (h : Same H H') (v : VR F' H' b a) : Q b H' := by
  subst e
  exact o F' H' b s f h v
end
abbrev vE (G : Par) : Hp → Hp → V → D → Prop := fun F _ v d => Rep G F v d
abbrev vB (G : Par) : Hp → Hp → V → D → Prop := fun F H v d => Bor G F H v d
abbrev vT : Hp → Hp → Bool → Bool → Prop := fun _ _ b c => b = c
abbrev vA (G : Par) : Hp → Hp → List V → List D → Prop := fun F H vs ds => Bors G F H vs ds
abbrev vAE (G : Par) : Hp → Hp → List V → List D → Prop := fun F _ vs ds => Reps G F vs ds
abbrev vO : Hp → Hp → Option Int → Option Int → Prop := fun _ _ b c => b = c
/-- what stands still, what is read where it stands, a test, arguments -/
abbrev rdE (G : Par) (W : WX) (f : DEnv → R D) : TE := rd G W (vE G) f
abbrev rdB (G : Par) (W : WX) (f : DEnv → R D) : TE := rd G W (vB G) f
abbrev rdT (G : Par) (W : WX) (f : DEnv → R Bool) : TT := rd G W vT f
abbrev rdA (G : Par) (W : WX) (f : DEnv → R (List D)) : TA := rd G W (vA G) f
abbrev rdAE (G : Par) (W : WX) (f : DEnv → R (List D)) : TA := rd G W (vAE G) f
/-- a new thing of one's own -/
def OkN (G : Par) (W : WX) (H0 F0 F H : Hp) (σ : L2.St) (env : DEnv) (r : R Own) (Q : VK) : Prop := match r with
  | .ok c => ∀ F' H' p, SR G H0 F0 F' H' σ env → Same F F' → Same H H' → H p = none → F' p = none → OwnAt G F' H' p c → Q (.ref p) H'
  | .exc c n => ∀ cls dd F' H', SR G H0 F0 F' H' σ env → ExcAt G F' cls dd c n → W cls dd σ H'
  | .bad => False
def rdN (G : Par) (W : WX) (f : DEnv → R Own) : TE := fun σ H Q => ∃ H0 F0 F env, SR G H0 F0 F H σ env ∧ OkN G W H0 F0 F H σ env (f env) Q

section
variable {X : Cx} {e : Expr} {es : List Expr} {t t' : TE} {a a' : TA} {tt tt' : TT}
theorem pe_mono (h : PE X e t) (m : ∀ σ H Q, t' σ H Q → t σ H Q) : PE X e t' := ⟨fun pins s σ H Q I q => h.run pins s σ H Q I (m σ H Q q)⟩
theorem pa_mono (h : PA X es a) (m : ∀ σ H Q, a' σ H Q → a σ H Q) : PA X es a' := ⟨fun pos pins s σ H Q I q => h.run pos pins s σ H Q I (m σ H Q q)⟩
theorem pt_mono (h : PT X e tt) (m : ∀ σ H Q, tt' σ H Q → tt σ H Q) : PT X e tt' := ⟨fun pins s σ H Q I q => h.run pins s σ H Q I (m σ H Q q)⟩
theorem pw_mono (h : PW X e tt) (m : ∀ σ H Q, tt' σ H Q → tt σ H Q) : PW X e tt' := ⟨fun wh pins s σ H Q I q => h.run wh pins s σ H Q I (m σ H Q q)⟩
end

/-! ### functions of a state -/
section
def mVar (i : Nat) : DEnv → R D := fun env => match env[i]? with
  | some (some (.fr d)) => .ok d
  | _ => .bad
def mVarB (i : Nat) : DEnv → R D := fun env => match env[i]? with
  | some (some (.fr d)) => .ok d
  | some (some (.ow _ c)) => .ok c.d
  | _ => .bad
def mC (d : D) : DEnv → R D := fun _ => .ok d
def mOp {α : Type} (g : D → D → Option α) (fa fb : DEnv → R D) : DEnv → R α := fun env => (fa env).bind fun x => (fb env).bind fun y => .ofO (g x y)
def mUn {α : Type} (g : D → Option α) (fa : DEnv → R D) : DEnv → R α := fun env => (fa env).bind fun x => .ofO (g x)
def mNil : DEnv → R (List D) := fun _ => .ok []
def mCons (fa : DEnv → R D) (fr : DEnv → R (List D)) : DEnv → R (List D) := fun env => (fa env).bind fun x => (fr env).bind fun xs => .ok (x :: xs)
def mAp {α : Type} (g : List D → Option α) (fa : DEnv → R (List D)) : DEnv → R α := fun env => (fa env).bind fun xs => .ofO (g xs)
def mCall (m : List D → R D) (fa : DEnv → R (List D)) : DEnv → R D := fun env => (fa env).bind m
def dB : D → Option Bool
  | .bl b => some b
  | _ => none
def mTest (f : DEnv → R D) : DEnv → R Bool := fun env => (f env).bind fun d => .ofO (dB d)
def mAnd (fa fb : DEnv → R Bool) : DEnv → R Bool := fun env => (fa env).bind fun x => match x with
  | true => fb env
  | false => .ok false
def mOr (fa fb : DEnv → R Bool) : DEnv → R Bool := fun env => (fa env).bind fun x => match x with
  | true => .ok true
  | false => fb env
def mNot (fa : DEnv → R Bool) : DEnv → R Bool := fun env => (fa env).bind fun x => .ok (!x)
def mAndV (fa fb : DEnv → R D) : DEnv → R D := fun env => (fa env).bind fun x => match x with
  | .bl true => fb env
  | .bl false => .ok (.bl false)
  | _ => .bad
def mOrV (fa fb : DEnv → R D) : DEnv → R D := fun env => (fa env).bind fun x => match x with
  | .bl false => fb env
  | .bl true => .ok (.bl true)
  | _ => .bad
def mIfE {α : Type} (fc : DEnv → R Bool) (fa fb : DEnv → R α) : DEnv → R α := fun env => (fc env).bind fun x => match x with
  | true => fa env
  | false => fb env
def mChain (g g' : D → D → Option D) (fa fb fc : DEnv → R D) : DEnv → R D := fun env => (fa env).bind fun x => (fb env).bind fun y => match g x y with
  | some (.bl true) => (fc env).bind fun z => .ofO (g' y z)
  | some (.bl false) => .ok (.bl false)
  | _ => .bad
def mTup (fa : DEnv → R (List D)) : DEnv → R D := fun env => (fa env).bind fun xs => if xs.length ≤ 1000 then .ok (.tup xs) else .bad
def mLst (fa : DEnv → R (List D)) : DEnv → R Own := fun env => (fa env).bind fun xs => if xs.length ≤ 1000 then .ok (.lst xs) else .bad
def mOfN (f : DEnv → R Own) : DEnv → R D := fun env => (f env).map Own.d
def dFldP : D → Option D
  | .obj p _ => some p
  | _ => none
def dFldT : D → Option D
  | .obj _ t => some t
  | _ => none
end

/-! ### rules by values -/
/-- a two-place rule that gives data -/
def OpD (G : Par) (r : R2) (g : D → D → Option D) : Prop :=
  ∀ F H x y a b d Q, Same F H → Bor G F H x a → Bor G F H y b → g a b = some d → (∀ F' H' z, Ext F H F' H' → Rep G F' z d → Q z H') → r x y H Q
/-- .. that gives a new thing -/
def OpN (G : Par) (r : R2) (g : D → D → Option Own) : Prop :=
  ∀ F H x y a b c Q, Same F H → Bor G F H x a → Bor G F H y b → g a b = some c → (∀ H' p, Same H H' → H p = none → OwnAt G F H' p c → Q (.ref p) H') → r x y H Q
def UnD (G : Par) (r : V → Hp → VK → Prop) (g : D → Option D) : Prop :=
  ∀ F H x a d Q, Same F H → Bor G F H x a → g a = some d → (∀ F' H' z, Ext F H F' H' → Rep G F' z d → Q z H') → r x H Q
def ApD (G : Par) (r : List V → Hp → VK → Prop) (g : List D → Option D) : Prop :=
  ∀ F H xs as d Q, Same F H → Bors G F H xs as → g as = some d → (∀ F' H' z, Ext F H F' H' → Rep G F' z d → Q z H') → r xs H Q
def ApN (G : Par) (r : List V → Hp → VK → Prop) (g : List D → Option Own) : Prop :=
  ∀ F H xs as c Q, Same F H → Bors G F H xs as → g as = some c → (∀ H' p, Same H H' → H p = none → OwnAt G F H' p c → Q (.ref p) H') → r xs H Q

section
variable {X : Cx} {G : Par} {W : WX} {e a b c : Expr} {es : List Expr} {pos : Pos} {fa fb fc : DEnv → R D} {fs : DEnv → R (List D)} {ga gb gc : DEnv → R Bool}
/-! names, constants -/
theorem e_var (i : Nat) {x : Str} (hN : X.N[i]? = some x := by rfl) (hv : Vis X.env.scope x := by first | exact Or.inl rfl | exact Or.inr (Or.inl rfl) | exact Or.inr (Or.inr rfl)) (hd : (x == ("__debug__" : Str)) = false := by decide)
    (hcd : (x == ("__classdict__" : Str)) = false := by decide) : PE X (.Name x pos) (rdE G W (mVar i)) := by
  refine pe_mono (pe_var (i := i) hN hv hd hcd) fun σ H Q ⟨H0, F0, F, env, s, o⟩ => ?_
  unfold mVar at o
  cases q : env[i]? with
  | none => rw [q] at o; exact o.elim
  | some z =>
    cases z with
    | none => rw [q] at o; exact o.elim
    | some y =>
      obtain ⟨v, e1, h1⟩ := s.sl i y q
      cases y with
      | fr d => rw [q] at o; exact ⟨v, e1, o F H v s (.refl _) (.refl _) h1⟩
      | ow qq c => rw [q] at o; exact o.elim
      | raw u => rw [q] at o; exact o.elim
theorem b_var (i : Nat) {x : Str} (hN : X.N[i]? = some x := by rfl) (hv : Vis X.env.scope x := by first | exact Or.inl rfl | exact Or.inr (Or.inl rfl) | exact Or.inr (Or.inr rfl)) (hd : (x == ("__debug__" : Str)) = false := by decide)
    (hcd : (x == ("__classdict__" : Str)) = false := by decide) : PE X (.Name x pos) (rdB G W (mVarB i)) := by
  refine pe_mono (pe_var (i := i) hN hv hd hcd) fun σ H Q ⟨H0, F0, F, env, s, o⟩ => ?_
  unfold mVarB at o
  cases q : env[i]? with
  | none => rw [q] at o; exact o.elim
  | some z =>
    cases z with
    | none => rw [q] at o; exact o.elim
    | some y =>
      obtain ⟨v, e1, h1⟩ := s.sl i y q
      cases y with
      | fr d => rw [q] at o; exact ⟨v, e1, o F H v s (.refl _) (.refl _) (Bor.of s.fh h1)⟩
      | ow qq c =>
        rw [q] at o
        obtain ⟨p, rfl, _, _, _, hp⟩ := h1
        exact ⟨_, e1, o F H _ s (.refl _) (.refl _) hp.bor⟩
      | raw u => rw [q] at o; exact o.elim
theorem tC_of {v : V} {d : D} (h : ∀ F, Rep G F v d) {σ : L2.St} {H : Hp} {Q : VK} (o : rdE G W (mC d) σ H Q) : tC v σ H Q := by
  obtain ⟨H0, F0, F, env, s, o⟩ := o
  exact o F H v s (.refl _) (.refl _) (h F)
theorem e_int {i : Int} {j} : PE X (.Constant (.int i) j pos) (rdE G W (mC (.int i))) := pe_mono pe_int fun _ _ _ o => tC_of (fun _ => .int i) o
theorem e_bl {i : Bool} {j} : PE X (.Constant (.bool i) j pos) (rdE G W (mC (.bl i))) := pe_mono pe_bl fun _ _ _ o => tC_of (fun _ => .bl i) o
theorem e_non {j} : PE X (.Constant .none j pos) (rdE G W (mC .non)) := pe_mono pe_non fun _ _ _ o => tC_of (fun _ => .non) o
theorem e_str {x : Str} {j} : PE X (.Constant (.str x) j pos) (rdE G W (mC (.str x))) := pe_mono pe_str fun _ _ _ o => tC_of (fun _ => .str x) o
/-- a constant of the module -/
theorem e_glob {x : Str} {v : V} {d : D} {u : Value} (hm : X.mg x = some u) (r : RelV v u) (h : ∀ F, Rep G F v d) (hg : Gl X x := by rfl) (hd : (x == ("__debug__" : Str)) = false := by decide) : PE X (.Name x pos) (rdE G W (mC d)) :=
  pe_mono (pe_glob hg hm r hd) fun _ _ _ o => tC_of h o

/-! one kind as another -/
theorem E.toB (h : PE X e (rdE G W fa)) : PE X e (rdB G W fa) := pe_mono h fun σ H Q ⟨H0, F0, F, env, s, o⟩ => ⟨H0, F0, F, env, s, by
  generalize fa env = r at o
  cases r with
  | ok d => exact fun F' H' v s' f h r => o F' H' v s' f h (Bor.of s'.fh r)
  | exc c n => exact o
  | bad => exact o⟩
/-- a new thing, as data -/
theorem N.toE {f : DEnv → R Own} (h : PE X e (rdN G W f)) : PE X e (rdE G W (mOfN f)) := pe_mono h fun σ H Q ⟨H0, F0, F, env, s, o⟩ => ⟨H0, F0, F, env, s, by
  unfold mOfN at o
  generalize f env = r at o
  cases r with
  | exc c n => exact o
  | bad => exact o
  | ok c =>
    intro F' H' p s' f h np nf w
    obtain ⟨ob, ho⟩ := w.there
    have e1 : Same F' (upd F' p ob) := fun b u q => by rw [upd_ne (ne_of_none q nf)]; exact q
    have sx : SR G H0 F0 (upd F' p ob) H' σ env := by
      refine ⟨s'.h0, s'.f0.trans e1, fun b u q => ?_, fun b n => ?_, fun b ps => ?_, s'.len, fun i x hx => ?_, s'.ds⟩
      · by_cases hb : b = p
        · subst hb; rw [upd_same] at q; cases q; exact ho
        · rw [upd_ne hb] at q; exact s'.fh _ _ q
      · rw [upd_ne (fun z => n (by rw [z]; exact s.h0.free np))]; exact s'.fn b n
      · by_cases hb : b = p
        · subst hb
          rw [upd_same]
          intro z
          cases z
          exact w.notTbl ho
        · rw [upd_ne hb]; exact s'.nt b ps
      · obtain ⟨v, q1, q2⟩ := s'.sl i x hx
        refine ⟨v, q1, ?_⟩
        cases x with
        | fr d => exact Rep.mono e1 q2
        | raw u => exact q2
        | ow qq cc =>
          obtain ⟨q, rfl, iq, n0, nq, oq⟩ := q2
          refine ⟨q, rfl, iq, n0, ?_, oq.mono e1 rfl⟩
          have hq : q ≠ p := fun z => by
            subst z
            obtain ⟨v2, z1, z2⟩ := s.sl i _ hx
            rw [q1] at z1; cases z1
            obtain ⟨q', e', _, _, _, o'⟩ := z2
            cases e'
            obtain ⟨o2, z3⟩ := o'.there
            rw [np] at z3; cases z3
          rw [upd_ne hq]; exact nq
    refine o (upd F' p ob) H' (.ref p) sx (f.trans e1) h ?_
    cases c with
    | lst ds => obtain ⟨vs, q, r⟩ := w; rw [ho] at q; cases q; exact .lst (.of upd_same) (r.mono e1)
    | dK ds => obtain ⟨vs, q, r⟩ := w; rw [ho] at q; cases q; exact .dK (.of upd_same) (r.mono e1)
    | dT ds => obtain ⟨vs, q, r⟩ := w; rw [ho] at q; cases q; exact .dT (.of upd_same) (r.mono e1)⟩
theorem N.toB {f : DEnv → R Own} (h : PE X e (rdN G W f)) : PE X e (rdB G W (mOfN f)) := E.toB (N.toE h)

/-! operations -/
theorem rd_op {r : R2} {g : D → D → Option D} (hr : OpD G r g) {σ : L2.St} {H : Hp} {Q : VK} (h : rdE G W (mOp g fa fb) σ H Q) : tOp r (rdB G W fa) (rdB G W fb) σ H Q := by
  obtain ⟨H0, F0, F, env, s, o⟩ := h
  refine ⟨H0, F0, F, env, s, o.step fun x F1 H1 v s1 f1 h1 r1 o1 => ⟨H0, F0, F1, env, s1, o1.step fun y F2 H2 u s2 f2 h2 r2 o2 => ?_⟩⟩
  cases q : g x y with
  | none => rw [q] at o2; exact o2.elim
  | some d =>
    rw [q] at o2
    exact hr F2 H2 v u x y d Q s2.fh (r1.mono f2 h2) r2 q fun F3 H3 z ex rz => o2 F3 H3 z (s2.ext ex) ex.f ex.h rz
theorem rd_opN {r : R2} {g : D → D → Option Own} (hr : OpN G r g) {σ : L2.St} {H : Hp} {Q : VK} (h : rdN G W (mOp g fa fb) σ H Q) : tOp r (rdB G W fa) (rdB G W fb) σ H Q := by
  obtain ⟨H0, F0, F, env, s, o⟩ := h
  unfold mOp at o
  refine ⟨H0, F0, F, env, s, ?_⟩
  cases q1 : fa env with
  | exc c n => rw [q1] at o; exact o
  | bad => rw [q1] at o; exact o
  | ok x =>
    rw [q1] at o
    intro F1 H1 v s1 f1 h1 r1
    refine ⟨H0, F0, F1, env, s1, ?_⟩
    cases q2 : fb env with
    | exc c n => rw [q2] at o; exact o
    | bad => rw [q2] at o; exact o
    | ok y =>
      rw [q2] at o
      intro F2 H2 u s2 f2 h2 r2
      cases q : g x y with
      | none => simp only [q, R.bind_ok, R.ofO_none] at o; exact o.elim
      | some c =>
        simp only [q, R.bind_ok, R.ofO_some] at o
        refine hr F2 H2 v u x y c Q s2.fh (r1.mono f2 h2) r2 q fun H3 p sm np w => ?_
        have nH : H p = none := (h1.trans h2).free np
        refine o F2 H3 p (s2.heap (s2.h0.trans sm) (s2.fh.trans sm) fun i qq cc pp e1 e2 => ?_) (f1.trans f2) ((h1.trans h2).trans sm) nH (s2.fh.free np) w
        obtain ⟨v2, z1, z2⟩ := s2.sl i _ e1
        rw [e2] at z1; cases z1
        obtain ⟨q', e', _, _, _, o'⟩ := z2
        cases e'
        obtain ⟨ob, z3⟩ := o'.there
        rw [z3]; exact sm _ _ z3
theorem e_op {op : Operator} {r : R2} {g : D → D → Option D} (ho : OpR X (binaryOp op) r) (hr : OpD G r g) (ha : PE X a (rdB G W fa)) (hb : PE X b (rdB G W fb)) : PE X (.BinOp a op b pos) (rdE G W (mOp g fa fb)) :=
  pe_mono (pe_op ho ha hb) fun _ _ _ h => rd_op hr h
theorem n_op {op : Operator} {r : R2} {g : D → D → Option Own} (ho : OpR X (binaryOp op) r) (hr : OpN G r g) (ha : PE X a (rdB G W fa)) (hb : PE X b (rdB G W fb)) : PE X (.BinOp a op b pos) (rdN G W (mOp g fa fb)) :=
  pe_mono (pe_op ho ha hb) fun _ _ _ h => rd_opN hr h
theorem e_cmp {op : CmpOp} {r : R2} {g : D → D → Option D} (ho : OpR X (compareOp op) r) (hr : OpD G r g) (ha : PE X a (rdB G W fa)) (hb : PE X b (rdB G W fb)) (hm : behindInMarks op b = false) : PE X (.Compare a [op] [b] pos) (rdE G W (mOp g fa fb)) :=
  pe_mono (pe_cmpR ho ha hb hm) fun _ _ _ h => rd_op hr h
theorem tst {t : TE} {f : DEnv → R D} (ht : ∀ σ H Q, rdE G W f σ H Q → t σ H Q) {σ : L2.St} {H : Hp} {Q : Bool → Hp → Prop} (h : rdT G W (mTest f) σ H Q) : t σ H fun x H' => ∃ k, x = .bl k ∧ Q k H' := by
  obtain ⟨H0, F0, F, env, s, o⟩ := h
  refine ht _ _ _ ⟨H0, F0, F, env, s, o.step fun x F1 H1 v s1 f1 h1 r1 o1 => ?_⟩
  cases x with
  | bl k => cases r1; exact ⟨k, rfl, o1 F1 H1 k s1 (.refl _) (.refl _) rfl⟩
  | _ => exact o1.elim
theorem t_cmp {op : CmpOp} {r : R2} {g : D → D → Option D} (ho : OpR X (compareOp op) r) (hr : OpD G r g) (ha : PE X a (rdB G W fa)) (hb : PE X b (rdB G W fb)) (hm : behindInMarks op b = false) : PT X (.Compare a [op] [b] pos) (rdT G W (mTest (mOp g fa fb))) :=
  pt_mono (pt_cmpR ho ha hb hm) fun _ _ _ h => tst (fun _ _ _ q => rd_op hr q) h
/-- an expression that gives a truth value, as a test -/
theorem t_val (h : PE X e (rdE G W fa)) (he : ∀ whole, isTrue e X.env whole = (do let v ← whole; standAt e.pos; holding [v] (truthy v)) := by intro _; rfl) : PT X e (rdT G W (mTest fa)) :=
  pt_mono (pt_val h he) fun _ _ _ q => tst (fun _ _ _ q => q) q
theorem t_and1 (ha : PT X a (rdT G W ga)) : PW X (.BoolOp .And [a] pos) (rdT G W ga) := pw_and1 ha
theorem t_or1 (ha : PT X a (rdT G W ga)) : PW X (.BoolOp .Or [a] pos) (rdT G W ga) := pw_or1 ha
theorem t_and {rest : List Expr} (ha : PT X a (rdT G W ga)) (hb : PW X (.BoolOp .And (b :: rest) pos) (rdT G W gb)) : PW X (.BoolOp .And (a :: b :: rest) pos) (rdT G W (mAnd ga gb)) :=
  pw_mono (pw_and ha hb) fun σ H Q ⟨H0, F0, F, env, s, o⟩ => ⟨H0, F0, F, env, s, o.step fun x F1 H1 v s1 f1 h1 r1 o1 => by
    subst r1
    cases v with
    | true => rw [if_pos rfl]; exact ⟨H0, F0, F1, env, s1, o1⟩
    | false => rw [if_neg Bool.false_ne_true]; exact o1 F1 H1 false s1 (.refl _) (.refl _) rfl⟩
theorem t_or {rest : List Expr} (ha : PT X a (rdT G W ga)) (hb : PW X (.BoolOp .Or (b :: rest) pos) (rdT G W gb)) : PW X (.BoolOp .Or (a :: b :: rest) pos) (rdT G W (mOr ga gb)) :=
  pw_mono (pw_or ha hb) fun σ H Q ⟨H0, F0, F, env, s, o⟩ => ⟨H0, F0, F, env, s, o.step fun x F1 H1 v s1 f1 h1 r1 o1 => by
    subst r1
    cases v with
    | true => rw [if_pos rfl]; exact o1 F1 H1 true s1 (.refl _) (.refl _) rfl
    | false => rw [if_neg Bool.false_ne_true]; exact ⟨H0, F0, F1, env, s1, o1⟩⟩
theorem t_not (ha : PT X a (rdT G W ga)) : PT X (.UnaryOp .Not a pos) (rdT G W (mNot ga)) :=
  pt_mono (pt_not ha) fun σ H Q ⟨H0, F0, F, env, s, o⟩ => ⟨H0, F0, F, env, s, o.step fun x F1 H1 v s1 f1 h1 r1 o1 => by
    subst r1
    exact o1 F1 H1 (!v) s1 (.refl _) (.refl _) rfl⟩
/-- .. as values -/
theorem e_and1 {op} (h : PE X a (rdE G W fa)) : PE X (.BoolOp op [a] pos) (rdE G W fa) := pe_one h
theorem e_and {rest : List Expr} (ha : PE X a (rdE G W fa)) (hb : PE X (.BoolOp .And (b :: rest) pos) (rdE G W fb)) : PE X (.BoolOp .And (a :: b :: rest) pos) (rdE G W (mAndV fa fb)) :=
  pe_mono (pe_and ha hb) fun σ H Q ⟨H0, F0, F, env, s, o⟩ => ⟨H0, F0, F, env, s, o.step fun x F1 H1 v s1 f1 h1 r1 o1 => by
    cases x with
    | bl k =>
      cases r1
      refine ⟨k, rfl, ?_⟩
      cases k with
      | true => rw [if_pos rfl]; exact ⟨H0, F0, F1, env, s1, o1⟩
      | false => rw [if_neg Bool.false_ne_true]; exact o1 F1 H1 _ s1 (.refl _) (.refl _) (.bl false)
    | _ => exact o1.elim⟩
theorem e_or {rest : List Expr} (ha : PE X a (rdE G W fa)) (hb : PE X (.BoolOp .Or (b :: rest) pos) (rdE G W fb)) : PE X (.BoolOp .Or (a :: b :: rest) pos) (rdE G W (mOrV fa fb)) :=
  pe_mono (pe_or ha hb) fun σ H Q ⟨H0, F0, F, env, s, o⟩ => ⟨H0, F0, F, env, s, o.step fun x F1 H1 v s1 f1 h1 r1 o1 => by
    cases x with
    | bl k =>
      cases r1
      refine ⟨k, rfl, ?_⟩
      cases k with
      | true => rw [if_pos rfl]; exact o1 F1 H1 _ s1 (.refl _) (.refl _) (.bl true)
      | false => rw [if_neg Bool.false_ne_true]; exact ⟨H0, F0, F1, env, s1, o1⟩
    | _ => exact o1.elim⟩
def mNotV (fa : DEnv → R D) : DEnv → R D := fun env => (fa env).bind fun x => match x with
  | .bl k => .ok (.bl (!k))
  | _ => .bad
theorem e_not (ha : PE X a (rdE G W fa)) : PE X (.UnaryOp .Not a pos) (rdE G W (mNotV fa)) :=
  pe_mono (pe_not ha) fun σ H Q ⟨H0, F0, F, env, s, o⟩ => ⟨H0, F0, F, env, s, o.step fun x F1 H1 v s1 f1 h1 r1 o1 => by
    cases x with
    | bl k => cases r1; exact ⟨k, rfl, o1 F1 H1 _ s1 (.refl _) (.refl _) (.bl _)⟩
    | _ => exact o1.elim⟩
theorem e_if (hc : PT X c (rdT G W gc)) (ha : PE X a (rdE G W fa)) (hb : PE X b (rdE G W fb)) : PE X (.IfExp c a b pos) (rdE G W (mIfE gc fa fb)) :=
  pe_mono (pe_ifExp hc ha hb) fun σ H Q ⟨H0, F0, F, env, s, o⟩ => ⟨H0, F0, F, env, s, o.step fun x F1 H1 v s1 f1 h1 r1 o1 => by
    subst r1
    cases v with
    | true => rw [if_pos rfl]; exact ⟨H0, F0, F1, env, s1, o1⟩
    | false => rw [if_neg Bool.false_ne_true]; exact ⟨H0, F0, F1, env, s1, o1⟩⟩
theorem e_un {op : UnaryOp} {r : V → Hp → VK → Prop} {g : D → Option D} (ho : UnR X (unaryOp op) r) (hr : UnD G r g) (ha : PE X a (rdB G W fa)) : PE X (.UnaryOp op a pos) (rdE G W (mUn g fa)) :=
  pe_mono (pe_un ho ha) fun σ H Q ⟨H0, F0, F, env, s, o⟩ => ⟨H0, F0, F, env, s, o.step fun x F1 H1 v s1 f1 h1 r1 o1 => by
    cases q : g x with
    | none => rw [q] at o1; exact o1.elim
    | some d =>
      rw [q] at o1
      exact hr F1 H1 v x d Q s1.fh r1 q fun F3 H3 z ex rz => o1 F3 H3 z (s1.ext ex) ex.f ex.h rz⟩
theorem rd_chain {r r' : R2} {g g' : D → D → Option D} (hr : OpD G r g) (hr' : OpD G r' g') {σ : L2.St} {H : Hp} {Q : VK} (h : rdE G W (mChain g g' fa fb fc) σ H Q) : tChain r r' (rdB G W fa) (rdB G W fb) (rdB G W fc) σ H Q := by
  obtain ⟨H0, F0, F, env, s, o⟩ := h
  refine ⟨H0, F0, F, env, s, o.step fun x F1 H1 v s1 f1 h1 r1 o1 => ⟨H0, F0, F1, env, s1, o1.step fun y F2 H2 u s2 f2 h2 r2 o2 => ?_⟩⟩
  cases q : g x y with
  | none => rw [q] at o2; exact o2.elim
  | some d =>
    rw [q] at o2
    cases d with
    | bl k =>
      refine hr F2 H2 v u x y _ _ s2.fh (r1.mono f2 h2) r2 q fun F3 H3 z ex rz => ?_
      cases rz
      refine ⟨k, rfl, ?_⟩
      cases k with
      | false => rw [if_neg Bool.false_ne_true]; exact o2 F3 H3 _ (s2.ext ex) ex.f ex.h (.bl false)
      | true =>
        rw [if_pos rfl]
        have o3 := OkE.grow ex.f ex.h o2
        refine ⟨H0, F0, F3, env, s2.ext ex, o3.step fun z F4 H4 w s4 f4 h4 r4 o4 => ?_⟩
        cases q' : g' y z with
        | none => rw [q'] at o4; exact o4.elim
        | some d =>
          rw [q'] at o4
          exact hr' F4 H4 u w y z d Q s4.fh (r2.mono (ex.f.trans f4) (ex.h.trans h4)) r4 q' fun F5 H5 z5 ex5 rz5 => o4 F5 H5 z5 (s4.ext ex5) ex5.f ex5.h rz5
    | _ => exact o2.elim
theorem t_chain {op op' : CmpOp} {r r' : R2} {g g' : D → D → Option D} (ho : OpR X (compareOp op) r) (hr : OpD G r g) (ho' : OpR X (compareOp op') r') (hr' : OpD G r' g') (ha : PE X a (rdB G W fa)) (hb : PE X b (rdB G W fb)) (hc : PE X c (rdB G W fc))
    (hm : lastMarks [op, op'] [b, c] = false := by with_unfolding_all rfl) : PT X (.Compare a [op, op'] [b, c] pos) (rdT G W (mTest (mChain g g' fa fb fc))) :=
  pt_mono (pt_chain ho ho' ha hb hc hm) fun _ _ _ h => tst (fun _ _ _ q => rd_chain hr hr' q) h
theorem e_chain {op op' : CmpOp} {r r' : R2} {g g' : D → D → Option D} (ho : OpR X (compareOp op) r) (hr : OpD G r g) (ho' : OpR X (compareOp op') r') (hr' : OpD G r' g') (ha : PE X a (rdB G W fa)) (hb : PE X b (rdB G W fb)) (hc : PE X c (rdB G W fc))
    (hm : lastMarks [op, op'] [b, c] = false := by with_unfolding_all rfl) : PE X (.Compare a [op, op'] [b, c] pos) (rdE G W (mChain g g' fa fb fc)) :=
  pe_mono (pe_chain ho ho' ha hb hc hm) fun _ _ _ h => rd_chain hr hr' h

/-! arguments, displays -/
theorem a_nil : PA X [] (rdA G W mNil) := pa_mono pa_nil fun σ H Q ⟨H0, F0, F, env, s, o⟩ => o F H [] s (.refl _) (.refl _) .nil
theorem a_cons (ha : PE X e (rdB G W fa)) (hr : PA X es (rdA G W fs)) (hs : starEach (e :: es) X.env = (false, eval e X.env) :: starEach es X.env := by rfl) : PA X (e :: es) (rdA G W (mCons fa fs)) :=
  pa_mono (pa_cons ha hr hs) fun σ H Q ⟨H0, F0, F, env, s, o⟩ => ⟨H0, F0, F, env, s, o.step fun x F1 H1 v s1 f1 h1 r1 o1 => ⟨H0, F0, F1, env, s1, o1.step fun xs F2 H2 vs s2 f2 h2 r2 o2 =>
    o2 F2 H2 (v :: vs) s2 (.refl _) (.refl _) (.cons (r1.mono f2 h2) r2)⟩⟩
theorem x_nil : PA X [] (rdAE G W mNil) := pa_mono pa_nil fun σ H Q ⟨H0, F0, F, env, s, o⟩ => o F H [] s (.refl _) (.refl _) .nil
theorem x_cons (ha : PE X e (rdE G W fa)) (hr : PA X es (rdAE G W fs)) (hs : starEach (e :: es) X.env = (false, eval e X.env) :: starEach es X.env := by rfl) : PA X (e :: es) (rdAE G W (mCons fa fs)) :=
  pa_mono (pa_cons ha hr hs) fun σ H Q ⟨H0, F0, F, env, s, o⟩ => ⟨H0, F0, F, env, s, o.step fun x F1 H1 v s1 f1 h1 r1 o1 => ⟨H0, F0, F1, env, s1, o1.step fun xs F2 H2 vs s2 f2 h2 r2 o2 =>
    o2 F2 H2 (v :: vs) s2 (.refl _) (.refl _) (.cons (Rep.mono f2 r1) r2)⟩⟩
theorem sz1000 {n : Nat} (h : n ≤ 1000) : n ≤ sizeLine := Nat.le_of_lt (small1000 h)
theorem e_tup {x1} (h : PA X es (rdAE G W fs)) : PE X (.Tuple es x1 pos) (rdE G W (mTup fs)) :=
  pe_mono (pe_tup h) fun σ H Q ⟨H0, F0, F, env, s, o⟩ => ⟨H0, F0, F, env, s, o.step fun xs F1 H1 vs s1 f1 h1 r1 o1 => by
    by_cases hl : xs.length ≤ 1000
    · rw [if_pos hl] at o1
      refine ⟨by rw [r1.length]; exact sz1000 hl, fun p hp => ?_⟩
      have ex := Ext.new (o := .tup vs) s1.fh hp
      exact o1 _ _ _ (s1.ext ex) ex.f ex.h (.tup upd_same (r1.mono ex.f))
    · rw [if_neg hl] at o1; exact o1.elim⟩
theorem n_lst (h : PA X es (rdAE G W fs)) : PE X (.List es pos) (rdN G W (mLst fs)) :=
  pe_mono (pe_lst h) fun σ H Q ⟨H0, F0, F, env, s, o⟩ => ⟨H0, F0, F, env, s, by
    unfold mLst at o
    cases q : fs env with
    | exc c n => rw [q] at o; exact o
    | bad => rw [q] at o; exact o
    | ok xs =>
      rw [q] at o
      intro F1 H1 vs s1 f1 h1 r1
      rw [R.bind_ok] at o
      by_cases hl : xs.length ≤ 1000
      · rw [if_pos hl] at o
        refine ⟨by rw [r1.length]; exact sz1000 hl, fun p hp => ?_⟩
        have nH : H p = none := h1.free hp
        refine o F1 _ p (s1.heap (fun b u z => ?_) (fun b u z => ?_) fun i qq c q e1 e2 => ?_) f1 (fun b u z => ?_) nH (s1.fh.free hp) ⟨vs, upd_same, r1⟩
        · rw [upd_ne (ne_of_none (s1.h0 _ _ z) hp)]; exact s1.h0 _ _ z
        · rw [upd_ne (ne_of_none (s1.fh _ _ z) hp)]; exact s1.fh _ _ z
        · exact upd_ne fun z => by subst z; exact s1.notOwn hp i qq c e1 e2
        · rw [upd_ne (ne_of_none (h1 _ _ z) hp)]; exact h1 _ _ z
      · rw [if_neg hl] at o; exact o.elim⟩
end
end S

set_option Elab.async false
set_option linter.all false
set_option maxRecDepth 100000
set_option maxHeartbeats 4000000
namespace S
open PySem PySem.Spec PyProof.Rows L2

/-- how a statement ends -/
inductive Out where
  | nx (e : DEnv) | rt (d : D) (e : DEnv) | bk (e : DEnv) | ct (e : DEnv) | xc (e : DEnv) (c : Str) (n : Option Int) | bad
def OkS (G : Par) (W : WX) (H0 F0 : Hp) (o : Out) (En : Ends) : Prop := match o with
  | .nx e => ∀ F' H' σ', SR G H0 F0 F' H' σ' e → En.nx σ' H'
  | .bk e => ∀ F' H' σ', SR G H0 F0 F' H' σ' e → En.bk σ' H'
  | .ct e => ∀ F' H' σ', SR G H0 F0 F' H' σ' e → En.ct σ' H'
  | .rt d e => ∀ F' H' σ' v, SR G H0 F0 F' H' σ' e → Rep G F' v d → En.rt v H'
  | .xc e c n => ∀ cls dd F' H' σ', SR G H0 F0 F' H' σ' e → ExcAt G F' cls dd c n → W cls dd σ' H'
  | .bad => False
def rdS (G : Par) (W : WX) (f : DEnv → Out) : TS := fun En σ H => ∃ H0 F0 F env, SR G H0 F0 F H σ env ∧ OkS G W H0 F0 (f env) En

/-- what a context must give -/
structure Sit (X : Cx) (W : WX) (k : Nat) : Prop where
  calm : X.calm = true
  nd : X.N.Nodup
  tk : Takes X W
  room : Room k X.A
  own : PassesOwn (model X.prog X.w) X.A X.env X.xe
theorem Sit.mono {X : Cx} {W : WX} {j k : Nat} (s : Sit X W k) (h : j ≤ k) : Sit X W j := ⟨s.calm, s.nd, s.tk, s.room.mono h, s.own⟩

def outR {α : Type} (r : R α) (env : DEnv) (k : α → Out) : Out := match r with
  | .ok a => k a
  | .exc c n => .xc env c n
  | .bad => .bad
@[simp] theorem outR_ok {α : Type} (a : α) (env : DEnv) (k : α → Out) : outR (.ok a) env k = k a := rfl
@[simp] theorem outR_exc {α : Type} (c : Str) (n : Option Int) (env : DEnv) (k : α → Out) : outR (.exc c n) env k = .xc env c n := rfl
@[simp] theorem outR_bad {α : Type} (env : DEnv) (k : α → Out) : outR .bad env k = .bad := rfl

def sNx : DEnv → Out := fun env => .nx env
def sBad : DEnv → Out := fun _ => .bad
def Out.thn (o : Out) (g : DEnv → Out) : Out := match o with
  | .nx e => g e
  | o => o
@[simp] theorem Out.thn_nx (e : DEnv) (g : DEnv → Out) : (Out.nx e).thn g = g e := rfl
@[simp] theorem Out.thn_rt (d : D) (e : DEnv) (g : DEnv → Out) : (Out.rt d e).thn g = .rt d e := rfl
@[simp] theorem Out.thn_bk (e : DEnv) (g : DEnv → Out) : (Out.bk e).thn g = .bk e := rfl
@[simp] theorem Out.thn_ct (e : DEnv) (g : DEnv → Out) : (Out.ct e).thn g = .ct e := rfl
@[simp] theorem Out.thn_xc (e : DEnv) (c : Str) (n : Option Int) (g : DEnv → Out) : (Out.xc e c n).thn g = .xc e c n := rfl
@[simp] theorem Out.thn_bad (g : DEnv → Out) : Out.bad.thn g = .bad := rfl
def sSeq (f g : DEnv → Out) : DEnv → Out := fun env => (f env).thn g
def sIf (fc : DEnv → R Bool) (f g : DEnv → Out) : DEnv → Out := fun env => outR (fc env) env fun b => match b with
  | true => f env
  | false => g env
def sSet (i : Nat) (fe : DEnv → R D) : DEnv → Out := fun env => outR (fe env) env fun d => .nx (env.set i (some (.fr d)))
def sSetN (i : Nat) (fe : DEnv → R Own) : DEnv → Out := fun env => outR (fe env) env fun c => .nx (env.set i (some (.ow none c)))
def sRet (fe : DEnv → R D) : DEnv → Out := fun env => outR (fe env) env fun d => .rt d env
def sRetN : DEnv → Out := fun env => .rt .non env
def sDrop (fe : DEnv → R D) : DEnv → Out := fun env => outR (fe env) env fun _ => .nx env
def sBrk : DEnv → Out := fun env => .bk env
def sCt : DEnv → Out := fun env => .ct env
def sRaise (c : Str) : DEnv → Out := fun env => .xc env c none
/-- what is done to the state alone, ahead and behind -/
def gFrz (i : Nat) : DEnv → DEnv := fun env => match env[i]? with
  | some (some (.ow _ c)) => env.set i (some (.fr c.d))
  | _ => env
def gFgt (i : Nat) : DEnv → DEnv := fun env => env.set i none
def sPre (g : DEnv → DEnv) (f : DEnv → Out) : DEnv → Out := fun env => f (g env)
def sPost (g : DEnv → DEnv) (f : DEnv → Out) : DEnv → Out := fun env => match f env with
  | .nx e => .nx (g e)
  | .ct e => .ct (g e)
  | o => o
/-- loops -/
def loopFor (ft : D → DEnv → Option DEnv) (fb : DEnv → Out) : List D → DEnv → Out
  | [], env => .nx env
  | d :: ds, env => match ft d env with
    | none => .bad
    | some e1 => match fb e1 with
      | .nx e => loopFor ft fb ds e
      | .ct e => loopFor ft fb ds e
      | .bk e => .nx e
      | o => o
def sFor (fi : DEnv → R (List D)) (ft : D → DEnv → Option DEnv) (fb : DEnv → Out) : DEnv → Out := fun env => outR (fi env) env fun ds => loopFor ft fb ds env
def loopWhile (fc : DEnv → R Bool) (fb : DEnv → Out) : Nat → DEnv → Out
  | 0, _ => .bad
  | n + 1, env => outR (fc env) env fun b => match b with
    | true => match fb env with
      | .nx e => loopWhile fc fb n e
      | .ct e => loopWhile fc fb n e
      | .bk e => .nx e
      | o => o
    | false => .nx env
/-- targets -/
def tgN (i : Nat) : D → DEnv → Option DEnv := fun d env => some (env.set i (some (.fr d)))
def tgT : List Nat → D → DEnv → Option DEnv := fun is d env => match d with
  | .tup ds => if ds.length = is.length then some ((is.zip ds).foldl (fun e p => e.set p.1 (some (.fr p.2))) env) else none
  | _ => none

section
variable {X : Cx} {st : Stmt} {sts : List Stmt} {ts ts' : TS}
theorem ps_mono (h : PS X st ts) (m : ∀ En σ H, ts' En σ H → ts En σ H) : PS X st ts' := ⟨fun pins s σ H En I q => h.run pins s σ H En I (m En σ H q)⟩
theorem pss_mono (h : PSs X sts ts) (m : ∀ En σ H, ts' En σ H → ts En σ H) : PSs X sts ts' := ⟨fun pins s σ H En I q => h.run pins s σ H En I (m En σ H q)⟩
end

section
variable {G : Par} {H0 F0 F H F' H' : Hp} {σ : L2.St} {env : DEnv}
/-- a thing of one's own has changed -/
theorem SR.put (s : SR G H0 F0 F H σ env) {i : Nat} {q : Option Addr} {c c' : Own} {p : Addr} {o' : HO} (e : env[i]? = some (some (.ow q c))) (v : σ[i]? = some (some (.ref p))) (w : OwnAt G F (upd H p o') p c') :
    SR G H0 F0 F (upd H p o') σ (env.set i (some (.ow q c'))) := by
  obtain ⟨v1, e1, p1, e2, iq, n0, nf, w0⟩ := s.sl i _ e
  rw [v] at e1; cases e1; cases e2
  have hi : i < env.length := (List.getElem?_eq_some_iff.mp e).1
  refine ⟨fun b u z => ?_, s.f0, fun b u z => ?_, s.fn, s.nt, by simpa using s.len, fun j y hy => ?_, fun j k qj qk cj ck r hjk ej ek vj vk => ?_⟩
  · rw [upd_ne (ne_of_none z n0)]; exact s.h0 _ _ z
  · rw [upd_ne (ne_of_none z nf)]; exact s.fh _ _ z
  · by_cases hj : j = i
    · subst hj
      rw [List.getElem?_set_self hi] at hy
      cases hy
      exact ⟨_, v, p, rfl, iq, n0, nf, w⟩
    · rw [List.getElem?_set_ne (Ne.symm hj)] at hy
      obtain ⟨u, z1, z2⟩ := s.sl j y hy
      refine ⟨u, z1, ?_⟩
      cases y with
      | fr d => exact z2
      | raw u => exact z2
      | ow qq cc =>
        obtain ⟨r, rfl, ir, n1, n2, w2⟩ := z2
        refine ⟨r, rfl, ir, n1, n2, w2.mono (.refl _) (upd_ne fun z => ?_)⟩
        subst z
        exact s.ds j i _ _ _ _ r hj hy e z1 v
  · have ne : ∀ (m : Nat) (qm : Option Addr) (cm : Own), (env.set i (some (.ow q c')))[m]? = some (some (.ow qm cm)) → ∃ qm' cm', env[m]? = some (some (.ow qm' cm')) := fun m qm cm z => by
      by_cases hm : m = i
      · subst hm; exact ⟨_, _, e⟩
      · rw [List.getElem?_set_ne (Ne.symm hm)] at z; exact ⟨_, _, z⟩
    obtain ⟨_, _, z1⟩ := ne _ _ _ ej
    obtain ⟨_, _, z2⟩ := ne _ _ _ ek
    exact s.ds j k _ _ _ _ r hjk z1 z2 vj vk
/-- a thing of one's own stands still from now on -/
theorem SR.frz (s : SR G H0 F0 F H σ env) (i : Nat) : ∃ F', SR G H0 F0 F' H σ (gFrz i env) ∧ Same F F' := by
  unfold gFrz
  cases e : env[i]? with
  | none => exact ⟨F, s, .refl _⟩
  | some z =>
    cases z with
    | none => exact ⟨F, s, .refl _⟩
    | some y =>
      cases y with
      | fr d => exact ⟨F, s, .refl _⟩
      | raw u => exact ⟨F, s, .refl _⟩
      | ow q c =>
        obtain ⟨v, e1, p, rfl, iq, n0, nf, w⟩ := s.sl i _ e
        obtain ⟨ob, ho⟩ := w.there
        have e2 : Same F (upd F p ob) := fun b u z => by rw [upd_ne (ne_of_none z nf)]; exact z
        have r : Rep G (upd F p ob) (.ref p) c.d := by
          cases c with
          | lst ds => obtain ⟨vs, q, r⟩ := w; rw [ho] at q; cases q; exact .lst (.of upd_same) (r.mono e2)
          | dK ds => obtain ⟨vs, q, r⟩ := w; rw [ho] at q; cases q; exact .dK (.of upd_same) (r.mono e2)
          | dT ds => obtain ⟨vs, q, r⟩ := w; rw [ho] at q; cases q; exact .dT (.of upd_same) (r.mono e2)
        refine ⟨upd F p ob, ⟨s.h0, s.f0.trans e2, fun b u z => ?_, fun b n => ?_, fun b ps => ?_, by simpa using s.len, fun j y hy => ?_, fun j k qj qk cj ck r hjk ej ek vj vk => ?_⟩, e2⟩
        · by_cases hb : b = p
          · subst hb; rw [upd_same] at z; cases z; exact ho
          · rw [upd_ne hb] at z; exact s.fh _ _ z
        · rw [upd_ne (fun z => n (by rw [z]; exact n0))]; exact s.fn b n
        · by_cases hb : b = p
          · subst hb
            rw [upd_same]
            intro z
            cases z
            exact w.notTbl ho
          · rw [upd_ne hb]; exact s.nt b ps
        · by_cases hj : j = i
          · subst hj
            rw [List.getElem?_set_self (List.getElem?_eq_some_iff.mp e).1] at hy
            cases hy
            exact ⟨_, e1, r⟩
          · rw [List.getElem?_set_ne (Ne.symm hj)] at hy
            obtain ⟨u, z1, z2⟩ := s.sl j y hy
            refine ⟨u, z1, ?_⟩
            cases y with
            | fr d => exact Rep.mono e2 z2
            | raw u => exact z2
            | ow qq cc =>
              obtain ⟨r, rfl, ir, n1, n2, w2⟩ := z2
              refine ⟨r, rfl, ir, n1, ?_, w2.mono e2 rfl⟩
              rw [upd_ne fun z => by rw [z] at z1; exact s.ds j i _ _ _ _ p hj hy e z1 e1]
              exact n2
        · have ne : ∀ (m : Nat) (qm : Option Addr) (cm : Own), (env.set i (some (.fr c.d)))[m]? = some (some (.ow qm cm)) → env[m]? = some (some (.ow qm cm)) := fun m qm cm z => by
            by_cases hm : m = i
            · subst hm; rw [List.getElem?_set_self (List.getElem?_eq_some_iff.mp e).1] at z; cases z
            · rw [List.getElem?_set_ne (Ne.symm hm)] at z; exact z
          exact s.ds j k _ _ _ _ r hjk (ne _ _ _ ej) (ne _ _ _ ek) vj vk
end

/-! ### statements -/
section
variable {X : Cx} {G : Par} {W : WX} {k : Nat} {e c tg iter : Expr} {st : Stmt} {rest body orelse : List Stmt} {pos : Pos} {f g : DEnv → Out} {fe fa : DEnv → R D} {fn : DEnv → R Own} {fc : DEnv → R Bool}
theorem OkS.nxOf {H0 F0 : Hp} {o : Out} {g : DEnv → Out} {En : Ends} (h : OkS G W H0 F0 (o.thn g) En) : OkS G W H0 F0 o { En with nx := rdS G W g En } := by
  cases o with
  | nx e => exact fun F' H' σ' s => ⟨H0, F0, F', e, s, h⟩
  | rt d e => exact h
  | bk e => exact h
  | ct e => exact h
  | xc e c n => exact h
  | bad => exact h
theorem z_nil : PSs X [] (rdS G W sNx) := pss_mono pss_nil fun En σ H ⟨H0, F0, F, env, s, o⟩ => o F H σ s
theorem z_cons (h1 : PS X st (rdS G W f)) (h2 : PSs X rest (rdS G W g)) : PSs X (st :: rest) (rdS G W (sSeq f g)) :=
  pss_mono (pss_cons h1 h2) fun En σ H ⟨H0, F0, F, env, s, o⟩ => ⟨H0, F0, F, env, s, OkS.nxOf o⟩
theorem z_one (h1 : PS X st (rdS G W f)) : PSs X [st] (rdS G W f) := pss_one h1
/-- the state turned ahead of a block, behind it -/
theorem rdS_frz (i : Nat) {En : Ends} {σ : L2.St} {H : Hp} (h : rdS G W (sPre (gFrz i) f) En σ H) : rdS G W f En σ H := by
  obtain ⟨H0, F0, F, env, s, o⟩ := h
  obtain ⟨F1, s1, _⟩ := s.frz i
  exact ⟨H0, F0, F1, _, s1, o⟩
theorem rdS_fgt (i : Nat) {En : Ends} {σ : L2.St} {H : Hp} (h : rdS G W (sPre (gFgt i) f) En σ H) : rdS G W f En σ H := by
  obtain ⟨H0, F0, F, env, s, o⟩ := h
  exact ⟨H0, F0, F, _, s.forget i, o⟩
theorem z_frz (i : Nat) (h : PSs X body (rdS G W f)) : PSs X body (rdS G W (sPre (gFrz i) f)) := pss_mono h fun _ _ _ q => rdS_frz i q
theorem z_fgt (i : Nat) (h : PSs X body (rdS G W f)) : PSs X body (rdS G W (sPre (gFgt i) f)) := pss_mono h fun _ _ _ q => rdS_fgt i q
theorem y_frz (i : Nat) (h : PS X st (rdS G W f)) : PS X st (rdS G W (sPre (gFrz i) f)) := ps_mono h fun _ _ _ q => rdS_frz i q
theorem z_end (i : Nat) (h : PSs X body (rdS G W f)) : PSs X body (rdS G W (sPost (gFgt i) f)) := pss_mono h fun En σ H ⟨H0, F0, F, env, s, o⟩ => ⟨H0, F0, F, env, s, by
  unfold sPost at o
  generalize f env = r at o
  cases r with
  | nx e => exact fun F' H' σ' s' => o F' H' σ' (s'.forget i)
  | ct e => exact fun F' H' σ' s' => o F' H' σ' (s'.forget i)
  | rt d e => exact o
  | bk e => exact o
  | xc e c n => exact o
  | bad => exact o⟩
theorem y_end (i : Nat) (h : PS X st (rdS G W f)) : PS X st (rdS G W (sPost (gFgt i) f)) := ps_mono h fun En σ H ⟨H0, F0, F, env, s, o⟩ => ⟨H0, F0, F, env, s, by
  unfold sPost at o
  generalize f env = r at o
  cases r with
  | nx e => exact fun F' H' σ' s' => o F' H' σ' (s'.forget i)
  | ct e => exact fun F' H' σ' s' => o F' H' σ' (s'.forget i)
  | rt d e => exact o
  | bk e => exact o
  | xc e c n => exact o
  | bad => exact o⟩
/-- the reading of an expression within a statement -/
theorem OkE.ofOut {α β : Type} {VR : Hp → Hp → β → α → Prop} {H0 F0 F H : Hp} {σ : L2.St} {env : DEnv} {r : R α} {kk : α → Out} {En : Ends} {T : β → Hp → Prop} (s : SR G H0 F0 F H σ env) (o : OkS G W H0 F0 (outR r env kk) En)
    (hk : ∀ a F1 H1 b, r = .ok a → SR G H0 F0 F1 H1 σ env → Same F F1 → Same H H1 → VR F1 H1 b a → OkS G W H0 F0 (kk a) En → T b H1) : OkE G W H0 F0 F H σ env VR r T := by
  cases r with
  | ok a => exact fun F1 H1 b s1 f1 h1 v => hk a F1 H1 b rfl s1 f1 h1 v o
  | exc c n => exact fun cls dd F' H' s' x => o cls dd F' H' σ s' x
  | bad => exact o
theorem y_set {i : Nat} {x : Str} {pos' : Pos} (hS : Sit X W k) (he : PE X e (rdE G W fe)) (hi : X.N[i]? = some x := by rfl) (hx : Loc X.env.scope x := by first | exact Or.inl rfl | exact Or.inr rfl)
    (hs : swapsWith e (some (.Name x pos')) pos.line X.env = pure false := by rfl) (hf : X.fn x = true ∨ X.env.scope.names.lookup x = some .local := by first | exact .inl rfl | exact .inr rfl) :
    PS X (.Assign [.Name x pos'] e pos) (rdS G W (sSet i fe)) :=
  ps_mono (ps_set (i := i) hS.nd hi hx he hs hf) fun En σ H ⟨H0, F0, F, env, s, o⟩ => ⟨H0, F0, F, env, s, OkE.ofOut s o fun d F1 H1 v _ s1 f1 h1 r1 o1 => o1 F1 H1 _ (s1.setD r1)⟩
theorem rdN_out {H0 F0 F H : Hp} {σ : L2.St} {env : DEnv} {kk : Own → Out} {En : Ends} {T : VK} (s : SR G H0 F0 F H σ env) (o : OkS G W H0 F0 (outR (fn env) env kk) En)
    (hk : ∀ c F1 H1 p, SR G H0 F0 F1 H1 σ env → Same F F1 → Same H H1 → H p = none → F1 p = none → OwnAt G F1 H1 p c → OkS G W H0 F0 (kk c) En → T (.ref p) H1) : rdN G W fn σ H T := by
  refine ⟨H0, F0, F, env, s, ?_⟩
  cases q : fn env with
  | ok c => rw [q] at o; exact fun F1 H1 p s1 f1 h1 n1 n2 w => hk c F1 H1 p s1 f1 h1 n1 n2 w o
  | exc c n => rw [q] at o; exact fun cls dd F' H' s' x => o cls dd F' H' σ s' x
  | bad => rw [q] at o; exact o
theorem y_setN {i : Nat} {x : Str} {pos' : Pos} (hS : Sit X W k) (he : PE X e (rdN G W fn)) (hi : X.N[i]? = some x := by rfl) (hx : Loc X.env.scope x := by first | exact Or.inl rfl | exact Or.inr rfl)
    (hs : swapsWith e (some (.Name x pos')) pos.line X.env = pure false := by rfl) (hf : X.fn x = true ∨ X.env.scope.names.lookup x = some .local := by first | exact .inl rfl | exact .inr rfl) :
    PS X (.Assign [.Name x pos'] e pos) (rdS G W (sSetN i fn)) :=
  ps_mono (ps_set (i := i) hS.nd hi hx he hs hf) fun En σ H ⟨H0, F0, F, env, s, o⟩ => rdN_out s o fun c F1 H1 p s1 f1 h1 n1 n2 w o1 =>
    o1 F1 H1 _ (s1.setO (fun _ z => nomatch z) (s.h0.free n1) n2 w fun j qj cj hj e1 e2 => s.notOwn n1 j qj cj e1 e2)
theorem y_ret (he : PE X e (rdE G W fe)) : PS X (.Return (some e) pos) (rdS G W (sRet fe)) :=
  ps_mono (ps_ret he) fun En σ H ⟨H0, F0, F, env, s, o⟩ => ⟨H0, F0, F, env, s, OkE.ofOut s o fun d F1 H1 v _ s1 f1 h1 r1 o1 => o1 F1 H1 σ v s1 r1⟩
theorem y_retN : PS X (.Return none pos) (rdS G W sRetN) := ps_mono ps_retN fun En σ H ⟨H0, F0, F, env, s, o⟩ => o F H σ .non s .non
theorem y_drop (he : PE X e (rdE G W fe)) (hs : swapsWith e none pos.line X.env = pure false := by rfl) : PS X (.Expr e pos) (rdS G W (sDrop fe)) :=
  ps_mono (ps_expr he hs) fun En σ H ⟨H0, F0, F, env, s, o⟩ => ⟨H0, F0, F, env, s, OkE.ofOut s o fun d F1 H1 v _ s1 f1 h1 r1 o1 => o1 F1 H1 σ s1⟩
theorem y_if {a b : List Stmt} (hc : PT X c (rdT G W fc)) (ha : PSs X a (rdS G W f)) (hb : PSs X b (rdS G W g)) : PS X (.If c a b pos) (rdS G W (sIf fc f g)) :=
  ps_mono (ps_if hc ha hb) fun En σ H ⟨H0, F0, F, env, s, o⟩ => ⟨H0, F0, F, env, s, OkE.ofOut s o fun d F1 H1 v _ s1 f1 h1 r1 o1 => by
    subst r1
    cases v with
    | true => rw [if_pos rfl]; exact ⟨H0, F0, F1, env, s1, o1⟩
    | false => rw [if_neg Bool.false_ne_true]; exact ⟨H0, F0, F1, env, s1, o1⟩⟩
theorem y_brk : PS X (.Break pos) (rdS G W sBrk) := ps_mono ps_break fun En σ H ⟨H0, F0, F, env, s, o⟩ => o F H σ s
theorem y_ct : PS X (.Continue pos) (rdS G W sCt) := ps_mono ps_continue fun En σ H ⟨H0, F0, F, env, s, o⟩ => o F H σ s
theorem y_pass : PS X (.Pass pos) (rdS G W sNx) := ps_mono ps_pass fun En σ H ⟨H0, F0, F, env, s, o⟩ => o F H σ s
/-- code that is never come to -/
theorem y_bad : PS X st (rdS G W sBad) := ps_mono ps_never fun En σ H ⟨H0, F0, F, env, s, o⟩ => o.elim
theorem z_bad : PSs X body (rdS G W sBad) := pss_mono pss_never fun En σ H ⟨H0, F0, F, env, s, o⟩ => o.elim
/-- a method that changes a thing of one's own, by values: its kind, then with one argument, with none -/
def OwnK (G : Par) (T : String) (k : Own → Bool) : Prop := ∀ F H p c, OwnAt G F H p c → k c = true → tyV G.K T (.ref p) H
def OwnR1 (G : Par) (VR : Hp → Hp → V → D → Prop) (r : V → List V → Hp → VK → Prop) (g : Own → D → Option Own) : Prop :=
  ∀ F H p c v d c' Q, OwnAt G F H p c → Same F H → VR F H v d → g c d = some c' → (∀ o', OwnAt G F (upd H p o') p c' → Q .non (upd H p o')) → r (.ref p) [v] H Q
def OwnR0 (G : Par) (r : V → List V → Hp → VK → Prop) (g : Own → Option Own) : Prop :=
  ∀ F H p c c' Q, OwnAt G F H p c → Same F H → g c = some c' → (∀ o', OwnAt G F (upd H p o') p c' → Q .non (upd H p o')) → r (.ref p) [] H Q
def sMt1 (kd : Own → Bool) (g : Own → D → Option Own) (i : Nat) (fe : DEnv → R D) : DEnv → Out := fun env => match env[i]? with
  | some (some (.ow q c)) => if kd c = true then outR (fe env) env fun d => match g c d with
      | some c' => .nx (env.set i (some (.ow q c')))
      | none => .bad
    else .bad
  | _ => .bad
def sMt0 (kd : Own → Bool) (g : Own → Option Own) (i : Nat) : DEnv → Out := fun env => match env[i]? with
  | some (some (.ow q c)) => if kd c = true then match g c with
      | some c' => .nx (env.set i (some (.ow q c')))
      | none => .bad
    else .bad
  | _ => .bad
theorem rd_mt1 {T : String} {r : V → List V → Hp → VK → Prop} {kd : Own → Bool} {g : Own → D → Option Own} {i : Nat} {VR : Hp → Hp → V → D → Prop} (hk : OwnK G T kd) (hr : OwnR1 G VR r g) (hK : X.K = G.K) {En : Ends} {σ : L2.St} {H : Hp} (h : rdS G W (sMt1 kd g i fe) En σ H) :
    tDrop (tBM X.K T r (tVar i) (tCons (rd G W VR fe) tNil)) En σ H := by
  obtain ⟨H0, F0, F, env, s, o⟩ := h
  unfold sMt1 at o
  cases q : env[i]? with
  | none => rw [q] at o; exact o.elim
  | some z =>
    cases z with
    | none => rw [q] at o; exact o.elim
    | some y =>
      cases y with
      | fr d => rw [q] at o; exact o.elim
      | raw u => rw [q] at o; exact o.elim
      | ow qq c =>
        rw [q] at o
        dsimp only at o
        obtain ⟨v, e1, p, rfl, iq, n0, nf, w⟩ := s.sl i _ q
        obtain ⟨ob, ho⟩ := w.there
        by_cases hc : kd c = true
        · rw [if_pos hc] at o
          refine ⟨_, e1, by rw [hK]; exact hk _ _ _ _ w hc, H0, F0, F, env, s, OkE.ofOut s o fun d F1 H1 v1 _ s1 f1 h1 r1 o1 => ?_⟩
          cases q3 : g c d with
          | none => rw [q3] at o1; exact o1.elim
          | some c' =>
            rw [q3] at o1
            exact hr F1 H1 p c v1 d c' _ (w.mono f1 ((h1 _ _ ho).trans ho.symm)) s1.fh r1 q3 fun o' w' => o1 F1 _ σ (s1.put q e1 w')
        · rw [if_neg hc] at o; exact o.elim
theorem rd_mt0 {T : String} {r : V → List V → Hp → VK → Prop} {kd : Own → Bool} {g : Own → Option Own} {i : Nat} (hk : OwnK G T kd) (hr : OwnR0 G r g) (hK : X.K = G.K) {En : Ends} {σ : L2.St} {H : Hp} (h : rdS G W (sMt0 kd g i) En σ H) :
    tDrop (tBM0 X.K T r (tVar i)) En σ H := by
  obtain ⟨H0, F0, F, env, s, o⟩ := h
  unfold sMt0 at o
  cases q : env[i]? with
  | none => rw [q] at o; exact o.elim
  | some z =>
    cases z with
    | none => rw [q] at o; exact o.elim
    | some y =>
      cases y with
      | fr d => rw [q] at o; exact o.elim
      | raw u => rw [q] at o; exact o.elim
      | ow qq c =>
        rw [q] at o
        dsimp only at o
        obtain ⟨v, e1, p, rfl, iq, n0, nf, w⟩ := s.sl i _ q
        by_cases hc : kd c = true
        · rw [if_pos hc] at o
          refine ⟨_, e1, by rw [hK]; exact hk _ _ _ _ w hc, ?_⟩
          cases q3 : g c with
          | none => rw [q3] at o; exact o.elim
          | some c' =>
            rw [q3] at o
            exact hr F H p c c' _ w s.fh q3 fun o' w' => o F _ σ (s.put q e1 w')
        · rw [if_neg hc] at o; exact o.elim
/-- x.m(e) as a statement, x a thing of one's own -/
theorem y_mt1 (i : Nat) {T id : String} {m : Str} {r : V → List V → Hp → VK → Prop} {kd : Own → Bool} {g : Own → D → Option Own} {x : Str} {p2 apos cpos : Pos} (pa : PlainAttrs T) (slot : Slot T m id) (hty : typeOf (.builtin id) = pure (.type "method_descriptor")) (hm : MtR X id r)
    (hk : OwnK G T kd) (hr : OwnR1 G (vE G) r g) (he : PE X e (rdE G W fe)) (hK : X.K = G.K := by rfl) (hN : X.N[i]? = some x := by rfl) (hv : Vis X.env.scope x := by first | exact Or.inl rfl | exact Or.inr (Or.inl rfl) | exact Or.inr (Or.inr rfl))
    (hd : (x == ("__debug__" : Str)) = false := by decide) (hcd : (x == ("__classdict__" : Str)) = false := by decide)
    (hst : starEach [e] X.env = (false, eval e X.env) :: starEach [] X.env := by rfl) (hbase : attributeBase (.Name x p2) m X.env (eval (.Name x p2) X.env) = eval (.Name x p2) X.env := by rfl) (hline : (apos.endLine == cpos.line) = true := by rfl)
    (hfew : (((backTo cpos (starEach [e] X.env)).all fun z => !z.1) && ((backToKw cpos (keywordEach [] X.env)).all fun z => z.1.isSome) && decide (([e].length + ([] : List Keyword).length + if ([] : List Keyword).isEmpty = true then 0 else 1) < 30)) = true := by rfl)
    (hpl : (backTo cpos (starEach [] X.env)).any (·.1) = false := by rfl) (hs : swapsWith (.Call (.Attribute (.Name x p2) m apos) [e] [] cpos) none pos.line X.env = pure false := by rfl) :
    PS X (.Expr (.Call (.Attribute (.Name x p2) m apos) [e] [] cpos) pos) (rdS G W (sMt1 kd g i fe)) :=
  ps_mono (ps_expr (pe_bm pa slot hty hm (pe_var (i := i) hN hv hd hcd) (pa_cons he pa_nil hst) hbase hfew hline hst hpl) hs) fun En σ H h => rd_mt1 hk hr hK h
theorem y_mt1b (i : Nat) {T id : String} {m : Str} {r : V → List V → Hp → VK → Prop} {kd : Own → Bool} {g : Own → D → Option Own} {x : Str} {p2 apos cpos : Pos} (pa : PlainAttrs T) (slot : Slot T m id) (hty : typeOf (.builtin id) = pure (.type "method_descriptor")) (hm : MtR X id r)
    (hk : OwnK G T kd) (hr : OwnR1 G (vB G) r g) (he : PE X e (rdB G W fe)) (hK : X.K = G.K := by rfl) (hN : X.N[i]? = some x := by rfl) (hv : Vis X.env.scope x := by first | exact Or.inl rfl | exact Or.inr (Or.inl rfl) | exact Or.inr (Or.inr rfl))
    (hd : (x == ("__debug__" : Str)) = false := by decide) (hcd : (x == ("__classdict__" : Str)) = false := by decide)
    (hst : starEach [e] X.env = (false, eval e X.env) :: starEach [] X.env := by rfl) (hbase : attributeBase (.Name x p2) m X.env (eval (.Name x p2) X.env) = eval (.Name x p2) X.env := by rfl) (hline : (apos.endLine == cpos.line) = true := by rfl)
    (hfew : (((backTo cpos (starEach [e] X.env)).all fun z => !z.1) && ((backToKw cpos (keywordEach [] X.env)).all fun z => z.1.isSome) && decide (([e].length + ([] : List Keyword).length + if ([] : List Keyword).isEmpty = true then 0 else 1) < 30)) = true := by rfl)
    (hpl : (backTo cpos (starEach [] X.env)).any (·.1) = false := by rfl) (hs : swapsWith (.Call (.Attribute (.Name x p2) m apos) [e] [] cpos) none pos.line X.env = pure false := by rfl) :
    PS X (.Expr (.Call (.Attribute (.Name x p2) m apos) [e] [] cpos) pos) (rdS G W (sMt1 kd g i fe)) :=
  ps_mono (ps_expr (pe_bm pa slot hty hm (pe_var (i := i) hN hv hd hcd) (pa_cons he pa_nil hst) hbase hfew hline hst hpl) hs) fun En σ H h => rd_mt1 hk hr hK h
theorem y_mt0 (i : Nat) {T id : String} {m : Str} {r : V → List V → Hp → VK → Prop} {kd : Own → Bool} {g : Own → Option Own} {x : Str} {p2 apos cpos : Pos} (pa : PlainAttrs T) (slot : Slot T m id) (hty : typeOf (.builtin id) = pure (.type "method_descriptor")) (hm : MtR X id r)
    (hk : OwnK G T kd) (hr : OwnR0 G r g) (hK : X.K = G.K := by rfl) (hN : X.N[i]? = some x := by rfl) (hv : Vis X.env.scope x := by first | exact Or.inl rfl | exact Or.inr (Or.inl rfl) | exact Or.inr (Or.inr rfl))
    (hd : (x == ("__debug__" : Str)) = false := by decide) (hcd : (x == ("__classdict__" : Str)) = false := by decide)
    (hbase : attributeBase (.Name x p2) m X.env (eval (.Name x p2) X.env) = eval (.Name x p2) X.env := by rfl) (hline : (apos.endLine == cpos.line) = true := by rfl)
    (hs : swapsWith (.Call (.Attribute (.Name x p2) m apos) [] [] cpos) none pos.line X.env = pure false := by rfl) :
    PS X (.Expr (.Call (.Attribute (.Name x p2) m apos) [] [] cpos) pos) (rdS G W (sMt0 kd g i)) :=
  ps_mono (ps_expr (pe_bm0 pa slot hty hm (pe_var (i := i) hN hv hd hcd) hbase hline) hs) fun En σ H h => rd_mt0 hk hr hK h
def isLst : Own → Bool
  | .lst _ => true
  | _ => false
def oApp : Own → D → Option Own
  | .lst ds, d => if ds.length < 1000000 then some (.lst (ds ++ [d])) else none
  | _, _ => none
def oExt : Own → D → Option Own
  | .lst ds, .lst es => if ds.length + es.length ≤ 1000000 then some (.lst (ds ++ es)) else none
  | .lst ds, .tup es => if ds.length + es.length ≤ 1000000 then some (.lst (ds ++ es)) else none
  | _, _ => none
def oRev : Own → Option Own
  | .lst ds => some (.lst ds.reverse)
  | _ => none
theorem k_lst : OwnK G "list" isLst := fun F H p c w h => by
  cases c with
  | lst ds => obtain ⟨vs, hp, r⟩ := w; exact .inl ⟨rfl, vs, .of hp⟩
  | dK ds => cases h
  | dT ds => cases h
theorem le_line {n : Nat} (h : n ≤ 1000000) : n ≤ sizeLine := Nat.le_trans h (by rw [sizeLine_eq]; decide)
theorem lt_line {n : Nat} (h : n < 1000000) : n < sizeLine := Nat.lt_of_lt_of_le h (by rw [sizeLine_eq]; decide)
theorem o_app {G : Par} : OwnR1 G (vE G) rAppend oApp := fun F H p c v d c' Q w e r q k => by
  cases c with
  | lst ds =>
    obtain ⟨vs, hp, rs⟩ := w
    change (if ds.length < 1000000 then some (Own.lst (ds ++ [d])) else none) = some c' at q
    by_cases hl : ds.length < 1000000
    · rw [if_pos hl] at q
      cases q
      exact ⟨p, vs, v, rfl, rfl, hp, lt_line (by rw [rs.length]; exact hl), k _ ⟨_, upd_same, rs.append (.cons r .nil)⟩⟩
    · rw [if_neg hl] at q; cases q
  | dK ds => cases q
  | dT ds => cases q
theorem o_rev {G : Par} : OwnR0 G rReverse oRev := fun F H p c c' Q w e q k => by
  cases c with
  | lst ds =>
    obtain ⟨vs, hp, rs⟩ := w
    cases q
    exact ⟨p, vs, rfl, rfl, hp, k _ ⟨_, upd_same, rs.reverse⟩⟩
  | dK ds => cases q
  | dT ds => cases q
end
section
variable {X : Cx} {G : Par} {W : WX} {k : Nat} {e c tg iter : Expr} {st : Stmt} {rest body orelse : List Stmt} {pos : Pos} {f g : DEnv → Out} {fe fa : DEnv → R D} {fn : DEnv → R Own} {fc : DEnv → R Bool}
/-! ### targets -/
/-- a target's reading: own are the slots that it stores -/
def rdG (G : Par) (own : List Nat) (ft : D → DEnv → Option DEnv) : TG := fun v σ H Q => ∃ H0 F0 F env d, SR G H0 F0 F H σ env ∧ Rep G F v d ∧ match ft d env with
  | some e => ∀ σ', SR G H0 F0 F H σ' e → (∀ vs : List Nat, (∀ i ∈ own, i ∈ vs) → wipe σ' vs = wipe σ vs) → Q σ' H
  | _ => False
theorem pg_mono {g g' : TG} (h : PG X tg g) (m : ∀ v σ H Q, g' v σ H Q → g v σ H Q) : PG X tg g' := ⟨fun pins s σ H v u Q I r q => h.run pins s σ H v u Q I r (m v σ H Q q)⟩
theorem pgs_mono {es : List Expr} {g g' : TGs} (h : PGs X es g) (m : ∀ v σ H Q, g' v σ H Q → g v σ H Q) : PGs X es g' := ⟨fun pins s σ H v u Q I r q => h.run pins s σ H v u Q I r (m v σ H Q q)⟩
theorem wipe_get (σ : L2.St) : ∀ (vs : List Nat) (j : Nat), (wipe σ vs)[j]? = if j ∈ vs then (if j < σ.length then some none else none) else σ[j]?
  | [], j => by simp [wipe]
  | v :: vs, j => by
    show ((wipe σ vs).set v none)[j]? = _
    by_cases h : v = j
    · subst h
      by_cases hl : v < σ.length
      · rw [List.getElem?_set_self (by rw [wipe_length]; exact hl)]; simp [hl]
      · rw [List.getElem?_eq_none (by rw [List.length_set, wipe_length]; omega)]; simp [hl]
    · rw [List.getElem?_set_ne h, wipe_get σ vs j]
      have : ¬ j = v := fun z => h z.symm
      simp [this]
theorem wipe_set {σ : L2.St} {vs : List Nat} {i : Nat} {x : Option V} (h : i ∈ vs) : wipe (σ.set i x) vs = wipe σ vs := by
  apply List.ext_getElem?
  intro j
  rw [wipe_get, wipe_get]
  by_cases hj : j ∈ vs
  · rw [if_pos hj, if_pos hj, List.length_set]
  · rw [if_neg hj, if_neg hj, List.getElem?_set_ne (fun z => hj (by rw [← z]; exact h))]
theorem g_name {i : Nat} {x : Str} {p2 : Pos} (hN : X.N.Nodup) (hi : X.N[i]? = some x := by rfl) (hx : Loc X.env.scope x := by first | exact Or.inl rfl | exact Or.inr rfl) (hf : X.fn x = true ∨ X.env.scope.names.lookup x = some .local := by first | exact .inl rfl | exact .inr rfl) :
    PG X (.Name x p2) (rdG G [i] (tgN i)) :=
  pg_mono (pg_name (i := i) hN hi hx hf) fun v σ H Q ⟨H0, F0, F, env, d, s, r, o⟩ => o _ (s.setD r) fun vs h => wipe_set (h i (List.mem_singleton.mpr rfl))
/-- several, one after another -/
def rdGs (G : Par) (is : List Nat) : TGs := fun vs σ H Q => ∃ H0 F0 F env ds, SR G H0 F0 F H σ env ∧ Reps G F vs ds ∧ ds.length = is.length ∧
  ∀ σ', SR G H0 F0 F H σ' ((is.zip ds).foldl (fun e p => e.set p.1 (some (.fr p.2))) env) → (∀ vs : List Nat, (∀ i ∈ is, i ∈ vs) → wipe σ' vs = wipe σ vs) → Q σ' H
theorem gs_nil : PGs X [] (rdGs G []) := pgs_mono pgs_nil fun vs σ H Q ⟨H0, F0, F, env, ds, s, r, hl, o⟩ => by
  cases r with
  | nil => exact ⟨rfl, o σ s fun _ _ => rfl⟩
  | cons _ _ => cases hl
theorem gs_cons {i : Nat} {is : List Nat} {x : Str} {p2 : Pos} {es : List Expr} (hN : X.N.Nodup) (h2 : PGs X es (rdGs G is)) (hi : X.N[i]? = some x := by rfl) (hx : Loc X.env.scope x := by first | exact Or.inl rfl | exact Or.inr rfl)
    (hf : X.fn x = true ∨ X.env.scope.names.lookup x = some .local := by first | exact .inl rfl | exact .inr rfl)
    (hs : (assignEach (.Name x p2 :: es) X.env).map (·.2) = assign (.Name x p2) X.env :: (assignEach es X.env).map (·.2) := by rfl) : PGs X (.Name x p2 :: es) (rdGs G (i :: is)) :=
  pgs_mono (pgs_cons (pg_name (i := i) hN hi hx hf) h2 hs) fun vs σ H Q ⟨H0, F0, F, env, ds, s, r, hl, o⟩ => by
    cases r with
    | nil => cases hl
    | cons r1 r2 =>
      refine ⟨_, _, rfl, H0, F0, F, _, _, s.setD r1, r2, Nat.succ.inj hl, fun σ' s' w => o σ' s' fun ws h => ?_⟩
      rw [w ws fun j hj => h j (List.mem_cons_of_mem _ hj)]
      exact wipe_set (h i List.mem_cons_self)
theorem g_tup {is : List Nat} {es : List Expr} {kk : Nat} {p2 : Pos} (hc : X.calm = true) (h : PGs X es (rdGs G is)) (hK : X.K = G.K := by rfl) (hn : (assignEach es X.env).length = is.length := by rfl) (hst : (assignEach es X.env).findIdx? (·.1) = none := by rfl) :
    PG X (.Tuple es kk p2) (rdG G is (tgT is)) :=
  pg_mono (pg_tup hc h hn hst) fun v σ H Q ⟨H0, F0, F, env, d, s, r, o⟩ => by
    cases r with
    | tup hq rs =>
      unfold tgT at o
      rename_i a0 vs0 ds hh
      by_cases hl : ds.length = is.length
      · simp only [hl, if_true] at o
        exact ⟨_, _, rfl, by rw [hK]; exact .of (s.fh _ _ hq), rs.length.trans hl, H0, F0, F, env, _, s, rs, hl, o⟩
      · simp only [if_neg hl] at o
    | _ => exact o.elim

/-! ### for -/
/-- what is walked gives the data ds one after another -/
def Walks (G : Par) (J : It) (F : Hp) (ds : List D) : Prop := ∀ (i : Nat) (F1 H1 : Hp), Same F F1 → Same F1 H1 →
  (∀ d, ds[i]? = some d → J.go i H1 ∧ ∀ x H2, J.yld i H1 x H2 → ∃ F2, Ext F1 H1 F2 H2 ∧ Rep G F2 x d) ∧ (ds.length ≤ i → J.stop i H1)
def rdI (G : Par) (W : WX) (fi : DEnv → R (List D)) : TI := fun σ H T => ∃ H0 F0 F env, SR G H0 F0 F H σ env ∧ match fi env with
  | .ok ds => ∀ F' H' J, SR G H0 F0 F' H' σ env → Same F F' → Same H H' → Walks G J F' ds → T J H'
  | .exc c n => ∀ cls dd F' H', SR G H0 F0 F' H' σ env → ExcAt G F' cls dd c n → W cls dd σ H'
  | .bad => False
theorem OkS.loop {H0 F0 F1 : Hp} {o : Out} {En : Ends} (f : Same F0 F1) (n : ∀ p, H0 p ≠ none → F1 p = F0 p) (h : OkS G W H0 F0 o En) : OkS G W H0 F1 o En := by
  cases o with
  | nx e => exact fun F' H' σ' s => h F' H' σ' (s.unbase f n)
  | rt d e => exact fun F' H' σ' v s => h F' H' σ' v (s.unbase f n)
  | bk e => exact fun F' H' σ' s => h F' H' σ' (s.unbase f n)
  | ct e => exact fun F' H' σ' s => h F' H' σ' (s.unbase f n)
  | xc e c k => exact fun cls dd F' H' σ' s => h cls dd F' H' σ' (s.unbase f n)
  | bad => exact h
theorem drop_cons {α : Type} {l : List α} {i : Nat} {d : α} (h : l[i]? = some d) : l.drop i = d :: l.drop (i + 1) := by
  obtain ⟨hi, e⟩ := List.getElem?_eq_some_iff.mp h
  rw [← e]
  exact (List.getElem_cons_drop (h := hi)).symm
theorem y_for {fi : DEnv → R (List D)} {ft : D → DEnv → Option DEnv} {own : List Nat} (hS : Sit X W k) (hi : PI X tg iter (rdI G W fi)) (hg : PG X tg (rdG G own ft)) (hb : PSs X body (rdS G W f)) (hs : ∀ x, foldedSetIterable iter X.env x = pure x := by intro _; rfl) :
    PS X (.For tg iter body [] pos) (rdS G W (sFor fi ft f)) := by
  refine ps_mono (ps_for hS.own hS.calm hi hg hb hs) fun En σ H ⟨H0, F0, F, env, s, o⟩ => ⟨H0, F0, F, env, s, ?_⟩
  unfold sFor at o
  cases q : fi env with
  | exc c n => rw [q] at o; exact fun cls dd F' H' s' x => o cls dd F' H' σ s' x
  | bad => rw [q] at o; exact o
  | ok ds =>
    rw [q] at o
    intro F1 H1 J s1 f1 h1 wk
    have sb := s1.rebase
    have ob : OkS G W H0 F1 (loopFor ft f ds env) En := OkS.loop s1.f0 s1.fn o
    refine ⟨fun i m σ' H' => m = ds.length - i ∧ ∃ F' env', SR G H0 F1 F' H' σ' env' ∧ OkS G W H0 F1 (loopFor ft f (ds.drop i) env') En, ⟨ds.length, rfl, F1, env, sb, ob⟩, ?_⟩
    rintro i m σ' H' ⟨rfl, F', env', s', o'⟩
    obtain ⟨w1, w2⟩ := wk i F' H' s'.f0 s'.fh
    cases q2 : ds[i]? with
    | none =>
      have hl : ds.length ≤ i := List.getElem?_eq_none_iff.mp q2
      rw [List.drop_eq_nil_of_le hl] at o'
      exact .inl ⟨w2 hl, o' F' H' σ' s'⟩
    | some d =>
      obtain ⟨hlt, _⟩ := List.getElem?_eq_some_iff.mp q2
      obtain ⟨go, yl⟩ := w1 d q2
      rw [drop_cons q2] at o'
      unfold loopFor at o'
      refine .inr ⟨go, fun σ2 H2 => ∃ F2 env2, SR G H0 F1 F2 H2 σ2 env2 ∧ OkS G W H0 F1 (loopFor ft f (ds.drop (i + 1)) env2) En, fun σ2 H2 h2 => ⟨ds.length - (i + 1), by omega, rfl, h2⟩, fun x H2 y => ?_⟩
      obtain ⟨F2, ex, r2⟩ := yl x H2 y
      refine ⟨H0, F1, F2, env', d, s'.ext ex, r2, ?_⟩
      cases q3 : ft d env' with
      | none => rw [q3] at o'; exact o'.elim
      | some e1 =>
        rw [q3] at o'
        dsimp only at o'
        intro σ3 s3 _
        refine ⟨H0, F1, F2, e1, s3, ?_⟩
        cases q4 : f e1 with
        | nx e => rw [q4] at o'; exact fun F4 H4 σ4 s4 => ⟨F4, e, s4, o'⟩
        | ct e => rw [q4] at o'; exact fun F4 H4 σ4 s4 => ⟨F4, e, s4, o'⟩
        | bk e => rw [q4] at o'; exact o'
        | rt d e => rw [q4] at o'; exact o'
        | xc e c n => rw [q4] at o'; exact o'
        | bad => rw [q4] at o'; exact o'

/-! ### while -/
theorem y_while {fc : DEnv → R Bool} (n : Nat) (hS : Sit X W k) (hc : PT X c (rdT G W fc)) (hb : PSs X body (rdS G W f)) : PS X (.While c body [] pos) (rdS G W (loopWhile fc f n)) := by
  refine ps_mono (ps_while hS.own hc hb) fun En σ H ⟨H0, F0, F, env, s, o⟩ => ?_
  refine ⟨fun m σ' H' => ∃ F' env', SR G H0 F0 F' H' σ' env' ∧ OkS G W H0 F0 (loopWhile fc f m env') En, ⟨n, F, env, s, o⟩, ?_⟩
  rintro m σ' H' ⟨F', env', s', o'⟩
  cases m with
  | zero => exact o'.elim
  | succ m =>
    unfold loopWhile at o'
    refine ⟨H0, F0, F', env', s', OkE.ofOut s' o' fun b F1 H1 v _ s1 f1 h1 r1 o1 => ?_⟩
    subst r1
    cases v with
    | false => rw [if_neg Bool.false_ne_true]; exact o1 F1 H1 σ' s1
    | true =>
      rw [if_pos rfl]
      refine ⟨fun σ2 H2 => ∃ F2 env2, SR G H0 F0 F2 H2 σ2 env2 ∧ OkS G W H0 F0 (loopWhile fc f m env2) En, fun σ2 H2 h2 => ⟨m, Nat.lt_succ_self m, h2⟩, H0, F0, F1, env', s1, ?_⟩
      dsimp only at o1
      cases q4 : f env' with
      | nx e => rw [q4] at o1; exact fun F4 H4 σ4 s4 => ⟨F4, e, s4, o1⟩
      | ct e => rw [q4] at o1; exact fun F4 H4 σ4 s4 => ⟨F4, e, s4, o1⟩
      | bk e => rw [q4] at o1; exact o1
      | rt d e => rw [q4] at o1; exact o1
      | xc e c n => rw [q4] at o1; exact o1
      | bad => rw [q4] at o1; exact o1
end

/-! ### defs -/
def startE (L : Nat) (ds : List D) : DEnv := ds.map (fun d => some (.fr d)) ++ List.replicate (L - ds.length) none
def runFn (L : Nat) (body : DEnv → Out) (ds : List D) : R D := match body (startE L ds) with
  | .nx _ => .ok .non
  | .rt d _ => .ok d
  | .xc _ c n => .exc c n
  | _ => .bad
/-- what a def of data promises: it computes m -/
def spD (G : Par) (n : Nat) (m : List D → R D) : Sp := fun vs H Q E => ∃ F ds, Same F H ∧ (∀ p ps, F p ≠ some (.tbl ps)) ∧ Reps G F vs ds ∧ ds.length = n ∧ match m ds with
  | .ok d => ∀ F' H' v, Ext F H F' H' → Rep G F' v d → Q v H'
  | .exc c j => ∀ cls dd F' H', Ext F H F' H' → ExcAt G F' cls dd c j → E cls dd H'
  | .bad => False
theorem sr_start {G : Par} {F H : Hp} {N : List Str} {vs : List V} {ds : List D} (nt : ∀ p ps, F p ≠ some (.tbl ps)) (e : Same F H) (r : Reps G F vs ds) (hl : ds.length ≤ N.length) : SR G H F F H (L2.start N vs) (startE N.length ds) := by
  have hlen := r.length
  refine ⟨.refl _, .refl _, e, fun _ _ => rfl, nt, ?_, fun i x hx => ?_, fun i j qi qj ci cj p _ ei _ _ _ => ?_⟩
  · unfold startE L2.start; simp [hlen]
  · unfold startE at hx
    unfold L2.start
    by_cases hi : i < ds.length
    · rw [List.getElem?_append_left (by simpa using hi), List.getElem?_map] at hx
      cases q : ds[i]? with
      | none => rw [q] at hx; cases hx
      | some d =>
        rw [q] at hx
        cases hx
        obtain ⟨v, e1, r1⟩ := r.get i q
        refine ⟨v, ?_, r1⟩
        rw [List.getElem?_append_left (by rw [List.length_map, hlen]; exact hi), List.getElem?_map, e1]; rfl
    · rw [List.getElem?_append_right (by simpa using Nat.le_of_not_lt hi)] at hx
      obtain ⟨_, z⟩ := List.getElem?_eq_some_iff.mp hx
      rw [List.getElem_replicate] at z; cases z
  · exfalso
    unfold startE at ei
    by_cases hi : i < ds.length
    · rw [List.getElem?_append_left (by simpa using hi), List.getElem?_map] at ei
      cases q : ds[i]? with
      | none => rw [q] at ei; cases ei
      | some d => rw [q] at ei; cases ei
    · rw [List.getElem?_append_right (by simpa using Nat.le_of_not_lt hi)] at ei
      obtain ⟨_, z⟩ := List.getElem?_eq_some_iff.mp ei
      rw [List.getElem_replicate] at z; cases z
theorem SR.ended {G : Par} {H0 F0 F H : Hp} {σ : L2.St} {env : DEnv} (s : SR G H0 F0 F H σ env) : Ext F0 H0 F H := ⟨s.f0, s.h0, s.fh, s.fn, fun _ => s.nt⟩
theorem run_body {G : Par} {W : WX} {N : List Str} {body : DEnv → Out} {n : Nat} {vs : List V} {H : Hp} {Q : VK} {E : XK} (hn : n ≤ N.length) (h : spD G n (runFn N.length body) vs H Q E) (hW : ∀ cls dd σ H, E cls dd H → W cls dd σ H) :
    rdS G W body { nx := fun _ H' => Q .non H', rt := Q } (L2.start N vs) H := by
  obtain ⟨F, ds, e, nt, r, hl, o⟩ := h
  refine ⟨H, F, F, startE N.length ds, sr_start nt e r (by omega), ?_⟩
  unfold runFn at o
  cases q : body (startE N.length ds) with
  | nx e => rw [q] at o; exact fun F' H' σ' s => o F' H' .non s.ended .non
  | rt d e => rw [q] at o; exact fun F' H' σ' v s r => o F' H' v s.ended r
  | xc e c j => rw [q] at o; exact fun cls dd F' H' σ' s x => hW _ _ _ _ (o cls dd F' H' s.ended x)
  | bk e => rw [q] at o; exact o.elim
  | ct e => rw [q] at o; exact o.elim
  | bad => rw [q] at o; exact o.elim

section
variable {P : Program} {w : World} {K : PySem.W.Frag} {mg : Str → Option Value} {base : Heap} {C : Addr}
abbrev WL (E : XK) : WX := fun cls dd _ H => E cls dd H
/-- THE RULE for a def of data -/
theorem fn_ok {x qual : Str} {st : Stmt} {f : Addr} {fd : FuncData} {N ps : List Str} {k n : Nat} {body : DEnv → Out} (F : Fun K x qual st f fd) (S : FnScope N ps (defScope st)) (hn : ps.length = n)
    (hb : ∀ (cdv : Value) (A : Around) (outer : List Env) (s : Shared) (H : Hp) (E : XK), Sit (cxOf (L2.CX P w) P w K mg base N qual (defScope st) f cdv A outer s H E) (WL E) k →
      PSs (cxOf (L2.CX P w) P w K mg base N qual (defScope st) f cdv A outer s H E) (defBody st) (rdS ⟨K, mg, C⟩ (WL E) body)) :
    FnOk P w K mg base (L2.CX P w) (k + 1) f fd ps (spD ⟨K, mg, C⟩ n (runFn N.length body)) := by
  have hN : n ≤ N.length := by rw [← hn, ← S.pre, List.length_take]; exact Nat.min_le_right _ _
  refine F.okX S (fun vs H Q E h => ?_) fun cdv A outer s H vs Q E hr h => ⟨rdS ⟨K, mg, C⟩ (WL E) body, ?_, run_body hN h fun _ _ _ _ z => z⟩
  · obtain ⟨_, ds, _, _, r, hl, _⟩ := h
    rw [r.length, hl, hn]
  · exact hb cdv A outer s H E ⟨rfl, S.nd, takes_of rfl rfl rfl rfl, hr, passes_of rfl⟩
/-- another function of the same values -/
theorem fn_eq {f : Addr} {fd : FuncData} {ps : List Str} {k n : Nat} {m m' : List D → R D} {G : Par} (F : FnOk P w K mg base (L2.CX P w) k f fd ps (spD G n m)) (h : ∀ ds, m' ds ≠ .bad → m ds = m' ds) : FnOk P w K mg base (L2.CX P w) k f fd ps (spD G n m') :=
  F.imp fun vs H Q E ⟨F0, ds, e, nt, r, hl, o⟩ => ⟨F0, ds, e, nt, r, hl, by
    by_cases q : m' ds = .bad
    · rw [q] at o; exact o.elim
    · rw [h ds q]; exact o⟩
end

/-! ### calls -/
section
variable {X : Cx} {G : Par} {W : WX} {k : Nat} {e a b c : Expr} {es : List Expr} {pos : Pos} {fa fb fc : DEnv → R D} {fs : DEnv → R (List D)}
def mCallN (n : Nat) (m : List D → R D) (fs : DEnv → R (List D)) : DEnv → R D := fun env => (fs env).bind fun ds => if ds.length = n then m ds else .bad
theorem rd_call {n : Nat} {m : List D → R D} {σ : L2.St} {H : Hp} {Q : VK} (h : rdE G W (mCallN n m fs) σ H Q) : tCallS (spD G n m) (WE W) (rdAE G W fs) σ H Q := by
  obtain ⟨H0, F0, F, env, s, o⟩ := h
  refine ⟨H0, F0, F, env, s, o.step fun ds F1 H1 vs s1 f1 h1 r1 o1 => ?_⟩
  by_cases hl : ds.length = n
  · rw [if_pos hl] at o1
    refine ⟨F1, ds, s1.fh, s1.nt, r1, hl, ?_⟩
    cases q : m ds with
    | ok d => rw [q] at o1; exact fun F2 H2 v ex r2 => o1 F2 H2 v (s1.ext ex) ex.f ex.h r2
    | exc c j =>
      rw [q] at o1
      exact fun cls dd F2 H2 ex x => o1 cls dd F2 H2 (s1.ext ex) x
    | bad => rw [q] at o1; exact o1
  · rw [if_neg hl] at o1; exact o1.elim
theorem e_call {f : Addr} {fd : FuncData} {ps : List Str} {n : Nat} {m : List D → R D} {x : Str} {p : Pos} {j : Nat} (hS : Sit X W k) (Fn : FnOk X.prog X.w X.K X.mg X.base (L2.CX X.prog X.w) j f fd ps (spD G n m)) (hb : Binds X.K fd ps []) (hm : X.mg x = some (.ref f)) (hk : PySem.W.keepIn X.K (.ref f) = true)
    (ha : PA X (e :: es) (rdAE G W fs)) (hj : j ≤ k := by decide) (hg : Gl X x := by rfl) (hdb : (x == ("__debug__" : Str)) = false := by decide) (he : starEach (e :: es) X.env = (false, eval e X.env) :: starEach es X.env := by rfl) (hpl : (backTo pos (starEach es X.env)).any (·.1) = false := by rfl) :
    PE X (.Call (.Name x p) (e :: es) [] pos) (rdE G W (mCallN n m fs)) :=
  pe_mono (pe_callS Fn (hS.room.mono hj) hg hm hk hb (fun σ => passAt hS.tk σ) ha hdb he hpl) fun _ _ _ h => rd_call h
/-- a built-in by its name -/
theorem rd_ap {r : List V → Hp → VK → Prop} {g : List D → Option D} (hr : ApD G r g) {σ : L2.St} {H : Hp} {Q : VK} (h : rdE G W (mAp g fs) σ H Q) : tCB r (rdA G W fs) σ H Q := by
  obtain ⟨H0, F0, F, env, s, o⟩ := h
  refine ⟨H0, F0, F, env, s, o.step fun ds F1 H1 vs s1 f1 h1 r1 o1 => ?_⟩
  cases q : g ds with
  | none => rw [q] at o1; exact o1.elim
  | some d =>
    rw [q] at o1
    exact hr F1 H1 vs ds d Q s1.fh r1 q fun F3 H3 z ex rz => o1 F3 H3 z (s1.ext ex) ex.f ex.h rz
theorem rd_apN {r : List V → Hp → VK → Prop} {g : List D → Option Own} (hr : ApN G r g) {σ : L2.St} {H : Hp} {Q : VK} (h : rdN G W (mAp g fs) σ H Q) : tCB r (rdA G W fs) σ H Q := by
  obtain ⟨H0, F0, F, env, s, o⟩ := h
  unfold mAp at o
  refine ⟨H0, F0, F, env, s, ?_⟩
  cases q1 : fs env with
  | exc c n => rw [q1] at o; exact o
  | bad => rw [q1] at o; exact o
  | ok ds =>
    rw [q1] at o
    intro F1 H1 vs s1 f1 h1 r1
    cases q : g ds with
    | none => simp only [q, R.bind_ok, R.ofO_none] at o; exact o.elim
    | some c =>
      simp only [q, R.bind_ok, R.ofO_some] at o
      refine hr F1 H1 vs ds c Q s1.fh r1 q fun H3 p sm np w => ?_
      refine o F1 H3 p (s1.heap (s1.h0.trans sm) (s1.fh.trans sm) fun i qq cc pp e1 e2 => ?_) f1 (h1.trans sm) (h1.free np) (s1.fh.free np) w
      obtain ⟨v2, z1, z2⟩ := s1.sl i _ e1
      rw [e2] at z1; cases z1
      obtain ⟨q', e', _, _, _, o'⟩ := z2
      cases e'
      obtain ⟨ob, z3⟩ := o'.there
      rw [z3]; exact sm _ _ z3
variable {x : Str} {p : Pos} {id T : String} {r : List V → Hp → VK → Prop}
theorem e_callB {g : List D → Option D} (hc : CallR X (.builtin id) r) (hr : ApD G r g) (hm : X.mg x = none) (hv : bootBuiltins x = some (.builtin id)) (ha : PA X (e :: es) (rdA G W fs)) (hg : Gl X x := by rfl) (hn : x ≠ "__name__" := by decide) (hdb : (x == ("__debug__" : Str)) = false := by decide)
    (he : starEach (e :: es) X.env = (false, eval e X.env) :: starEach es X.env := by rfl) (hpl : (backTo pos (starEach es X.env)).any (·.1) = false := by rfl) : PE X (.Call (.Name x p) (e :: es) [] pos) (rdE G W (mAp g fs)) :=
  pe_mono (pe_callB hc hg hm hv ha hn hdb he hpl) fun _ _ _ h => rd_ap hr h
theorem n_callB {g : List D → Option Own} (hc : CallR X (.builtin id) r) (hr : ApN G r g) (hm : X.mg x = none) (hv : bootBuiltins x = some (.builtin id)) (ha : PA X (e :: es) (rdA G W fs)) (hg : Gl X x := by rfl) (hn : x ≠ "__name__" := by decide) (hdb : (x == ("__debug__" : Str)) = false := by decide)
    (he : starEach (e :: es) X.env = (false, eval e X.env) :: starEach es X.env := by rfl) (hpl : (backTo pos (starEach es X.env)).any (·.1) = false := by rfl) : PE X (.Call (.Name x p) (e :: es) [] pos) (rdN G W (mAp g fs)) :=
  pe_mono (pe_callB hc hg hm hv ha hn hdb he hpl) fun _ _ _ h => rd_apN hr h
theorem e_callTy {g : List D → Option D} (hc : CallR X (.type T) r) (hr : ApD G r g) (hm : X.mg x = none) (hv : bootBuiltins x = some (.type T)) (ha : PA X (e :: es) (rdA G W fs)) (hg : Gl X x := by rfl) (hn : x ≠ "__name__" := by decide) (hdb : (x == ("__debug__" : Str)) = false := by decide)
    (he : starEach (e :: es) X.env = (false, eval e X.env) :: starEach es X.env := by rfl) (hpl : (backTo pos (starEach es X.env)).any (·.1) = false := by rfl) : PE X (.Call (.Name x p) (e :: es) [] pos) (rdE G W (mAp g fs)) :=
  pe_mono (pe_callTy hc hg hm hv ha hn hdb he hpl) fun _ _ _ h => rd_ap hr h
theorem n_callTy {g : List D → Option Own} (hc : CallR X (.type T) r) (hr : ApN G r g) (hm : X.mg x = none) (hv : bootBuiltins x = some (.type T)) (ha : PA X (e :: es) (rdA G W fs)) (hg : Gl X x := by rfl) (hn : x ≠ "__name__" := by decide) (hdb : (x == ("__debug__" : Str)) = false := by decide)
    (he : starEach (e :: es) X.env = (false, eval e X.env) :: starEach es X.env := by rfl) (hpl : (backTo pos (starEach es X.env)).any (·.1) = false := by rfl) : PE X (.Call (.Name x p) (e :: es) [] pos) (rdN G W (mAp g fs)) :=
  pe_mono (pe_callTy hc hg hm hv ha hn hdb he hpl) fun _ _ _ h => rd_apN hr h
end
end S

set_option Elab.async false
set_option linter.all false
set_option maxRecDepth 100000
set_option maxHeartbeats 4000000
namespace S
open PySem PySem.Spec PyProof.Rows L2

/-! ### arithmetic -/
def gAdd : D → D → Option D
  | .int i, .int j => some (.int (i + j))
  | .str x, .str y => if x.length + y.length ≤ 1000000 then some (.str (x ++ y)) else none
  | .tup xs, .tup ys => if xs.length + ys.length ≤ 1000000 then some (.tup (xs ++ ys)) else none
  | _, _ => none
def gSub : D → D → Option D
  | .int i, .int j => some (.int (i - j))
  | _, _ => none
def gMul : D → D → Option D
  | .int i, .int j => if (-(2 ^ 64) < i ∧ i < 2 ^ 64) ∨ (-(2 ^ 64) < j ∧ j < 2 ^ 64) then some (.int (i * j)) else none
  | _, _ => none
def gDiv : D → D → Option D
  | .int i, .int j => if 0 < j ∧ j < 1073741824 then some (.int (i / j)) else none
  | _, _ => none
def gMod : D → D → Option D
  | .int i, .int j => if 0 < j then some (.int (i % j)) else none
  | _, _ => none
def gPow : D → D → Option D
  | .int i, .int j => if 0 ≤ j ∧ j ≤ 1000000 ∧ i.natAbs < 2 ^ 64 then some (.int (i ^ j.toNat)) else none
  | _, _ => none
def gShl : D → D → Option D
  | .int i, .int j => if 0 ≤ j ∧ j ≤ 1000000 ∧ i.natAbs < 2 ^ 64 then some (.int (i * 2 ^ j.toNat)) else none
  | _, _ => none
def gBor : D → D → Option D
  | .int i, .int j => some (.int (Builtin.bitOr i j))
  | _, _ => none
def gNeg : D → Option D
  | .int i => some (.int (-i))
  | _ => none
def gLt : D → D → Option D
  | .int i, .int j => some (.bl (decide (i < j)))
  | _, _ => none
def gLe : D → D → Option D
  | .int i, .int j => some (.bl (decide (i ≤ j)))
  | _, _ => none
def gGt : D → D → Option D
  | .int i, .int j => some (.bl (decide (j < i)))
  | _, _ => none
def gGe : D → D → Option D
  | .int i, .int j => some (.bl (decide (j ≤ i)))
  | _, _ => none
section
variable {G : Par}
theorem d_I0 {h : Int → Int → V} {h' : Int → Int → D} {g : D → D → Option D} (hr : ∀ F i j, Rep G F (h i j) (h' i j)) (hg : ∀ a b d, g a b = some d → ∃ i j, a = .int i ∧ b = .int j ∧ d = h' i j) : OpD G (rI0 h) g := fun F H x y a b d Q e ha hb q k => by
  obtain ⟨i, j, rfl, rfl, rfl⟩ := hg a b d q
  cases ha
  cases hb
  exact ⟨i, j, rfl, rfl, k F H _ (.refl e) (hr F i j)⟩
theorem d_I {c : Int → Int → Prop} {h : Int → Int → V} {h' : Int → Int → D} {g : D → D → Option D} (hr : ∀ F i j, Rep G F (h i j) (h' i j)) (hg : ∀ a b d, g a b = some d → ∃ i j, a = .int i ∧ b = .int j ∧ c i j ∧ d = h' i j) : OpD G (rI c h) g := fun F H x y a b d Q e ha hb q k => by
  obtain ⟨i, j, rfl, rfl, hc, rfl⟩ := hg a b d q
  cases ha
  cases hb
  exact ⟨i, j, rfl, rfl, hc, k F H _ (.refl e) (hr F i j)⟩
theorem d_sub : OpD G (rI0 fun i j => .int (i - j)) gSub := d_I0 (fun _ _ _ => .int _) fun a b d q => by
  unfold gSub at q; split at q
  · cases q; exact ⟨_, _, rfl, rfl, rfl⟩
  · cases q
theorem d_mul : OpD G (rI CMul fun i j => .int (i * j)) gMul := d_I (fun _ _ _ => .int _) fun a b d q => by
  unfold gMul at q; split at q
  · split at q
    · rename_i h; cases q; exact ⟨_, _, rfl, rfl, h, rfl⟩
    · cases q
  · cases q
theorem d_div : OpD G (rI CDiv fun i j => .int (i / j)) gDiv := d_I (fun _ _ _ => .int _) fun a b d q => by
  unfold gDiv at q; split at q
  · split at q
    · rename_i h; cases q; exact ⟨_, _, rfl, rfl, h, rfl⟩
    · cases q
  · cases q
theorem d_mod : OpD G (rI (fun _ j => 0 < j) fun i j => .int (i % j)) gMod := d_I (fun _ _ _ => .int _) fun a b d q => by
  unfold gMod at q; split at q
  · split at q
    · rename_i h; cases q; exact ⟨_, _, rfl, rfl, h, rfl⟩
    · cases q
  · cases q
theorem d_pow : OpD G (rI CPow fun i j => .int (i ^ j.toNat)) gPow := d_I (fun _ _ _ => .int _) fun a b d q => by
  unfold gPow at q; split at q
  · split at q
    · rename_i h; cases q; exact ⟨_, _, rfl, rfl, h, rfl⟩
    · cases q
  · cases q
theorem d_shl : OpD G (rI CPow fun i j => .int (i * 2 ^ j.toNat)) gShl := d_I (fun _ _ _ => .int _) fun a b d q => by
  unfold gShl at q; split at q
  · split at q
    · rename_i h; cases q; exact ⟨_, _, rfl, rfl, h, rfl⟩
    · cases q
  · cases q
theorem d_bor : OpD G (rI0 fun i j => .int (Builtin.bitOr i j)) gBor := d_I0 (fun _ _ _ => .int _) fun a b d q => by
  unfold gBor at q; split at q
  · cases q; exact ⟨_, _, rfl, rfl, rfl⟩
  · cases q
theorem d_lt : OpD G (rI0 fun i j => .bl (decide (i < j))) gLt := d_I0 (fun _ _ _ => .bl _) fun a b d q => by
  unfold gLt at q; split at q
  · cases q; exact ⟨_, _, rfl, rfl, rfl⟩
  · cases q
theorem d_le : OpD G (rI0 fun i j => .bl (decide (i ≤ j))) gLe := d_I0 (fun _ _ _ => .bl _) fun a b d q => by
  unfold gLe at q; split at q
  · cases q; exact ⟨_, _, rfl, rfl, rfl⟩
  · cases q
theorem d_gt : OpD G (rI0 fun i j => .bl (decide (j < i))) gGt := d_I0 (fun _ _ _ => .bl _) fun a b d q => by
  unfold gGt at q; split at q
  · cases q; exact ⟨_, _, rfl, rfl, rfl⟩
  · cases q
theorem d_ge : OpD G (rI0 fun i j => .bl (decide (j ≤ i))) gGe := d_I0 (fun _ _ _ => .bl _) fun a b d q => by
  unfold gGe at q; split at q
  · cases q; exact ⟨_, _, rfl, rfl, rfl⟩
  · cases q
theorem d_neg : UnD G (rU fun i => .int (-i)) gNeg := fun F H x a d Q e ha q k => by
  unfold gNeg at q; split at q
  · cases q; cases ha; exact ⟨_, rfl, k F H _ (.refl e) (.int _)⟩
  · cases q
/-- + of ints, texts, tuples -/
def rAddA (K : PySem.W.Frag) : R2 := fun x y H Q => rI0 (fun i j => .int (i + j)) x y H Q ∨ (∃ i j, x = .str i ∧ y = .str j ∧ i.length + j.length ≤ sizeLine ∧ Q (.str (i ++ j)) H) ∨ rCatA K x y H Q
theorem op_addA {X : Cx} : OpR X (binaryOp .Add) (rAddA X.K) := op_add.or (op_add_str.or op_catA)
theorem d_addA : OpD G (rAddA G.K) gAdd := fun F H x y a b d Q e ha hb q k => by
  unfold gAdd at q; split at q
  · cases q; cases ha; cases hb; exact .inl ⟨_, _, rfl, rfl, k F H _ (.refl e) (.int _)⟩
  · split at q
    · rename_i h; cases q; cases ha; cases hb; exact .inr (.inl ⟨_, _, rfl, rfl, le_line h, k F H _ (.refl e) (.str _)⟩)
    · cases q
  · split at q
    · rename_i xs ys h
      cases q
      have ha' := ha
      have hb' := hb
      cases ha with | tup hv rv =>
      cases hb with | tup hw rw' =>
      rename_i a vs b ws
      refine .inr (.inr ⟨a, b, vs, ws, rfl, rfl, .of (e _ _ hv), .of (e _ _ hw), le_line (by rw [rv.length, rw'.length]; exact h), fun z => ?_, fun _ z => ?_, fun _ _ p hp => ?_⟩)
      · have ex : xs = [] := List.eq_nil_of_length_eq_zero (by rw [← rv.length, z]; rfl)
        subst ex
        exact k F H _ (.refl e) hb'
      · have ey : ys = [] := List.eq_nil_of_length_eq_zero (by rw [← rw'.length, z]; rfl)
        subst ey
        exact k F H _ (.refl e) (by rw [List.append_nil]; exact ha')
      · have ex := Ext.new (o := .tup (vs ++ ws)) e hp
        exact k _ _ _ ex (.tup upd_same ((rv.append rw').mono ex.f))
    · cases q
  · cases q

/-! ### data as the library's data -/
mutual
def py : D → PyData
  | .non => .none
  | .bl b => .bool b
  | .int i => .int i
  | .str x => .str x
  | .lst ds => .list (pys ds)
  | .tup ds => .tuple (pys ds)
  | .dK _ => .none
  | .dT _ => .none
  | .obj _ _ => .none
  | .exo _ _ => .none
def pys : List D → List PyData
  | [] => []
  | d :: ds => py d :: pys ds
end
mutual
/-- no dicts, no objects, texts of true signs -/
def okD : D → Bool
  | .non => true
  | .bl _ => true
  | .int _ => true
  | .str x => PyData.strOk x
  | .lst ds => okDs ds
  | .tup ds => okDs ds
  | .dK _ => false
  | .dT _ => false
  | .obj _ _ => false
  | .exo _ _ => false
def okDs : List D → Bool
  | [] => true
  | d :: ds => okD d && okDs ds
end
mutual
def dep : D → Nat
  | .lst ds => deps ds + 1
  | .tup ds => deps ds + 1
  | .non => 0
  | .bl _ => 0
  | .int _ => 0
  | .str _ => 0
  | .dK _ => 0
  | .dT _ => 0
  | .obj _ _ => 0
  | .exo _ _ => 0
def deps : List D → Nat
  | [] => 0
  | d :: ds => max (dep d) (deps ds)
end
mutual
theorem can_py : ∀ d : D, okD d = true → (py d).canLay0 = true
  | .non, _ => rfl
  | .bl _, _ => rfl
  | .int _, _ => rfl
  | .str x, h => by
    show PyData.canLay0 (.str x) = true
    simp only [PyData.canLay0]; exact h
  | .lst ds, h => by
    show PyData.canLay0 (.list (pys ds)) = true
    simp only [PyData.canLay0]; exact can_pys ds h
  | .tup ds, h => by
    show PyData.canLay0 (.tuple (pys ds)) = true
    simp only [PyData.canLay0]; exact can_pys ds h
  | .dK _, h => by cases h
  | .dT _, h => by cases h
  | .obj _ _, h => by cases h
  | .exo _ _, h => by cases h
theorem can_pys : ∀ ds : List D, okDs ds = true → PyData.canLayAll0 (pys ds) = true
  | [], _ => rfl
  | d :: ds, h => by
    have h' : (okD d && okDs ds) = true := h
    rw [Bool.and_eq_true] at h'
    show PyData.canLayAll0 (py d :: pys ds) = true
    simp only [PyData.canLayAll0, can_py d h'.1, can_pys ds h'.2, Bool.and_self]
end
mutual
theorem dep_py : ∀ d : D, (py d).depth = dep d
  | .non => rfl
  | .bl _ => rfl
  | .int _ => rfl
  | .str _ => rfl
  | .lst ds => by
    show PyData.depth (.list (pys ds)) = deps ds + 1
    simp only [PyData.depth, dep_pys ds]
  | .tup ds => by
    show PyData.depth (.tuple (pys ds)) = deps ds + 1
    simp only [PyData.depth, dep_pys ds]
  | .dK _ => rfl
  | .dT _ => rfl
  | .obj _ _ => rfl
  | .exo _ _ => rfl
theorem dep_pys : ∀ ds : List D, PyData.depthAll (pys ds) = deps ds
  | [] => rfl
  | d :: ds => by
    show PyData.depthAll (py d :: pys ds) = max (dep d) (deps ds)
    simp only [PyData.depthAll, dep_py d, dep_pys ds]
end
variable {F H : Hp}
mutual
theorem Rep.dp (e : Same F H) : ∀ {v : V} {d : D}, okD d = true → Rep G F v d → Dp G.K H v (py d)
  | _, _, _, .non => .non
  | _, _, _, .bl b => .bl b
  | _, _, _, .int i => .int i
  | _, _, _, .str x => .str x
  | _, _, o, .lst h r => .lst (same_sqL e h) (Reps.dp e o r)
  | _, _, o, .tup h r => .tup (.of (e _ _ h)) (Reps.dp e o r)
  | _, _, o, .dK _ _ => by cases o
  | _, _, o, .dT _ _ => by cases o
  | _, _, o, .obj _ _ _ _ _ => by cases o
  | _, _, o, .ex0 _ _ => by cases o
  | _, _, o, .ex1 _ _ _ => by cases o
theorem Reps.dp (e : Same F H) : ∀ {vs : List V} {ds : List D}, okDs ds = true → Reps G F vs ds → DpAll G.K H vs (pys ds)
  | _, _, _, .nil => .nil
  | _, _, o, .cons h r => .cons (Rep.dp e (Bool.and_eq_true_iff.mp o).1 h) (Reps.dp e (Bool.and_eq_true_iff.mp o).2 r)
end
theorem Bor.dp (e : Same F H) {v : V} {d : D} (o : okD d = true) (h : Bor G F H v d) : Dp G.K H v (py d) := by
  cases d with
  | lst ds => obtain ⟨a, vs, rfl, hq, r⟩ := h; exact .lst hq (Reps.dp e o r)
  | tup ds => exact Rep.dp e o h
  | non => exact Rep.dp e o h
  | bl b => exact Rep.dp e o h
  | int i => exact Rep.dp e o h
  | str x => exact Rep.dp e o h
  | dK _ => cases o
  | dT _ => cases o
  | obj _ _ => cases o
  | exo _ _ => cases o
def dOk (d : D) : Bool := okD d && decide (dep d ≤ 60)
theorem shaped_of {d : D} (h : dOk d = true) : SeqAt.shaped (py d) = true := by
  have h' := Bool.and_eq_true_iff.mp h
  have h2 : dep d ≤ 60 := of_decide_eq_true h'.2
  exact Bool.and_eq_true_iff.mpr ⟨can_py d h'.1, decide_eq_true (by rw [dep_py]; omega)⟩
/-- == of data -/
def eqD (a b : D) : Bool := PyData.eqv (py a) (py b)
def gEq : D → D → Option D
  | .non, .non => some (.bl true)
  | .non, .int _ => some (.bl false)
  | .int _, .non => some (.bl false)
  | .bl a, .bl b => some (.bl (decide (a = b)))
  | .int a, .int b => some (.bl (decide (a = b)))
  | .str a, .str b => some (.bl (decide (a = b)))
  | .int _, .str _ => some (.bl false)
  | .str _, .int _ => some (.bl false)
  | .lst a, .lst b => if dOk (.lst a) && dOk (.lst b) then some (.bl (eqD (.lst a) (.lst b))) else none
  | .tup a, .tup b => if dOk (.tup a) && dOk (.tup b) then some (.bl (eqD (.tup a) (.tup b))) else none
  | _, _ => none
def gNe : D → D → Option D := fun a b => match gEq a b with
  | some (.bl k) => some (.bl (!k))
  | _ => none
def rEqA (K : PySem.W.Frag) : R2 := fun x y H Q => rEq x y H Q ∨ rEqD K x y H Q
def rNeA (K : PySem.W.Frag) : R2 := fun x y H Q => rNe x y H Q ∨ rNeD K x y H Q
theorem op_eqA {X : Cx} {k : Nat} (hr : Room k X.A) : OpR X (compareOp .Eq) (rEqA X.K) := op_eq.or (op_eqD hr.units)
theorem op_neA {X : Cx} {k : Nat} (hr : Room k X.A) : OpR X (compareOp .NotEq) (rNeA X.K) := op_ne.or (op_neD hr.units)
theorem gEq_cases {F H : Hp} {x y : V} {a b d : D} (e : Same F H) (ha : Bor G F H x a) (hb : Bor G F H y b) (q : gEq a b = some d) :
    ∃ k, d = .bl k ∧ ((scal x y = true ∧ decide (x = y) = k) ∨ (Dp G.K H x (py a) ∧ Dp G.K H y (py b) ∧ SeqAt.shaped (py a) = true ∧ SeqAt.shaped (py b) = true ∧ PyData.eqv (py a) (py b) = k)) := by
  unfold gEq at q
  split at q
  · cases q; cases ha; cases hb; exact ⟨_, rfl, .inl ⟨rfl, by simp⟩⟩
  · cases q; cases ha; cases hb; exact ⟨_, rfl, .inl ⟨rfl, by simp⟩⟩
  · cases q; cases ha; cases hb; exact ⟨_, rfl, .inl ⟨rfl, by simp⟩⟩
  · cases q; cases ha; cases hb; exact ⟨_, rfl, .inl ⟨rfl, by simp⟩⟩
  · cases q; cases ha; cases hb; exact ⟨_, rfl, .inl ⟨rfl, by simp⟩⟩
  · cases q; cases ha; cases hb; exact ⟨_, rfl, .inl ⟨rfl, by simp⟩⟩
  · cases q; cases ha; cases hb; exact ⟨_, rfl, .inl ⟨rfl, by simp⟩⟩
  · cases q; cases ha; cases hb; exact ⟨_, rfl, .inl ⟨rfl, by simp⟩⟩
  · split at q
    · rename_i a b h
      cases q
      have h' := Bool.and_eq_true_iff.mp h
      exact ⟨_, rfl, .inr ⟨ha.dp e (Bool.and_eq_true_iff.mp h'.1).1, hb.dp e (Bool.and_eq_true_iff.mp h'.2).1, shaped_of h'.1, shaped_of h'.2, rfl⟩⟩
    · cases q
  · split at q
    · rename_i a b h
      cases q
      have h' := Bool.and_eq_true_iff.mp h
      exact ⟨_, rfl, .inr ⟨ha.dp e (Bool.and_eq_true_iff.mp h'.1).1, hb.dp e (Bool.and_eq_true_iff.mp h'.2).1, shaped_of h'.1, shaped_of h'.2, rfl⟩⟩
    · cases q
  · cases q
theorem d_eqA : OpD G (rEqA G.K) gEq := fun F H x y a b d Q e ha hb q k => by
  obtain ⟨kk, rfl, h⟩ := gEq_cases e ha hb q
  rcases h with ⟨h1, rfl⟩ | ⟨h1, h2, h3, h4, rfl⟩
  · exact .inl ⟨h1, k F H _ (.refl e) (.bl _)⟩
  · exact .inr ⟨_, _, h1, h2, h3, h4, k F H _ (.refl e) (.bl _)⟩
theorem d_neA : OpD G (rNeA G.K) gNe := fun F H x y a b d Q e ha hb q k => by
  unfold gNe at q
  split at q
  · rename_i kk q'
    cases q
    obtain ⟨k2, e2, h⟩ := gEq_cases e ha hb q'
    cases e2
    rcases h with ⟨h1, rfl⟩ | ⟨h1, h2, h3, h4, rfl⟩
    · exact .inl ⟨h1, k F H _ (.refl e) (.bl _)⟩
    · exact .inr ⟨_, _, h1, h2, h3, h4, k F H _ (.refl e) (.bl _)⟩
  · cases q
/-- is None -/
def gIsN : D → D → Option D
  | .non, .non => some (.bl true)
  | _, .non => some (.bl false)
  | _, _ => none
def gNotN : D → D → Option D
  | .non, .non => some (.bl false)
  | _, .non => some (.bl true)
  | _, _ => none
theorem bor_non {F H : Hp} {x : V} {a : D} (h : Bor G F H x a) (n : a ≠ .non) : x ≠ .non := by
  cases a with
  | non => exact absurd rfl n
  | lst ds => obtain ⟨a, vs, rfl, _⟩ := h; exact nofun
  | dK ds => obtain ⟨a, vs, rfl, _⟩ := h; exact nofun
  | dT ds => obtain ⟨a, vs, rfl, _⟩ := h; exact nofun
  | tup ds => cases h; exact nofun
  | bl b => cases h; exact nofun
  | int i => cases h; exact nofun
  | str x => cases h; exact nofun
  | obj _ _ => cases h; exact nofun
  | exo _ _ => cases h <;> exact nofun
theorem d_isN : OpD G (fun x y H Q => y = .non ∧ Q (.bl (decide (x = .non))) H) gIsN := fun F H x y a b d Q e ha hb q k => by
  unfold gIsN at q
  split at q
  · cases q; cases ha; cases hb; exact ⟨rfl, k F H _ (.refl e) (.bl _)⟩
  · rename_i hn
    cases q
    cases hb
    refine ⟨rfl, ?_⟩
    rw [decide_eq_false (bor_non ha (fun z => hn z))]
    exact k F H _ (.refl e) (.bl _)
  · cases q
theorem d_notN : OpD G (fun x y H Q => y = .non ∧ Q (.bl (!decide (x = .non))) H) gNotN := fun F H x y a b d Q e ha hb q k => by
  unfold gNotN at q
  split at q
  · cases q; cases ha; cases hb; exact ⟨rfl, k F H _ (.refl e) (.bl _)⟩
  · rename_i hn
    cases q
    cases hb
    refine ⟨rfl, ?_⟩
    rw [decide_eq_false (bor_non ha (fun z => hn z))]
    exact k F H _ (.refl e) (.bl _)
  · cases q
/-- in a list, in a tuple -/
def flatD : D → Bool
  | .non => true
  | .bl _ => true
  | .int _ => true
  | .str _ => true
  | _ => false
def eqF : D → D → Bool
  | .non, .non => true
  | .bl a, .bl b => a == b
  | .bl a, .int b => (if a then 1 else 0) == b
  | .int a, .bl b => a == (if b then 1 else 0)
  | .int a, .int b => a == b
  | .str a, .str b => a == b
  | _, _ => false
def inD (a : D) (ds : List D) : Option Bool := if flatD a && ds.all flatD then some (ds.any fun z => eqF z a) else if dOk a && dOk (.lst ds) then some (ds.any fun z => eqD z a) else none
def gIn : D → D → Option D
  | a, .lst ds => (inD a ds).map .bl
  | a, .tup ds => (inD a ds).map .bl
  | .str x, .str y => some (.bl (!(Builtin.Str.occurrences y x 0 y.length 1).isEmpty))
  | _, _ => none
def gNin : D → D → Option D
  | a, .lst ds => (inD a ds).map fun k => .bl (!k)
  | a, .tup ds => (inD a ds).map fun k => .bl (!k)
  | .str x, .str y => some (.bl (!(!(Builtin.Str.occurrences y x 0 y.length 1).isEmpty)))
  | _, _ => none
def rInT (K : PySem.W.Frag) : R2 := fun x y H Q => ∃ d ds, Dp K H x d ∧ Dp K H y (.tuple ds) ∧ SeqAt.shaped d = true ∧ SeqAt.shaped (.tuple ds) = true ∧ Q (.bl (ds.any fun z => PyData.eqv z d)) H
def rNinT (K : PySem.W.Frag) : R2 := fun x y H Q => ∃ d ds, Dp K H x d ∧ Dp K H y (.tuple ds) ∧ SeqAt.shaped d = true ∧ SeqAt.shaped (.tuple ds) = true ∧ Q (.bl (!ds.any fun z => PyData.eqv z d)) H
theorem op_inT {X : Cx} (hu : X.A.units + 65 < cLine) : OpR X (compareOp .In) (rInT X.K) := by
  intro pn s σ H x y v u Q I rx ry ⟨d, ds, hd, he, sd, se, q⟩
  obtain ⟨as, r1⟩ := Dp.reads I d x v hd rx
  obtain ⟨bs, r2⟩ := Dp.reads I (.tuple ds) y u he ry
  have h1 : min (PyData.depthAll ds) d.depth ≤ d.depth := Nat.min_le_right _ _
  have h2 := SeqAt.depth_of_shaped sd
  exact SeqAt.in_tuple_reads r2 r1 (SeqAt.canLay_of_shaped se) (SeqAt.canLay_of_shaped sd) (by omega) ⟨.bl _, H, I, rfl, q⟩
theorem op_ninT {X : Cx} (hu : X.A.units + 65 < cLine) : OpR X (compareOp .NotIn) (rNinT X.K) := by
  intro pn s σ H x y v u Q I rx ry ⟨d, ds, hd, he, sd, se, q⟩
  obtain ⟨as, r1⟩ := Dp.reads I d x v hd rx
  obtain ⟨bs, r2⟩ := Dp.reads I (.tuple ds) y u he ry
  have h1 : min (PyData.depthAll ds) d.depth ≤ d.depth := Nat.min_le_right _ _
  have h2 := SeqAt.depth_of_shaped sd
  exact SeqAt.notIn_tuple_reads r2 r1 (SeqAt.canLay_of_shaped se) (SeqAt.canLay_of_shaped sd) (by omega) ⟨.bl _, H, I, rfl, q⟩
def rInA (K : PySem.W.Frag) : R2 := fun x y H Q => rIn K false x y H Q ∨ rInD K x y H Q ∨ rInT K x y H Q ∨ (∃ i j, x = .str i ∧ y = .str j ∧ Q (.bl (!(Builtin.Str.occurrences j i 0 j.length 1).isEmpty)) H)
def rNinA (K : PySem.W.Frag) : R2 := fun x y H Q => rIn K true x y H Q ∨ rNotInD K x y H Q ∨ rNinT K x y H Q ∨ (∃ i j, x = .str i ∧ y = .str j ∧ Q (.bl (!(!(Builtin.Str.occurrences j i 0 j.length 1).isEmpty))) H)
theorem room65 {k : Nat} {A : Around} (hr : Room k A) : A.units + 65 < cLine := by have := hr.un; omega
theorem op_inA {X : Cx} {k : Nat} (hr : Room k X.A) : OpR X (compareOp .In) (rInA X.K) := op_in_seq.or ((op_inD (room65 hr)).or ((op_inT (room65 hr)).or op_in_str))
theorem op_ninA {X : Cx} {k : Nat} (hr : Room k X.A) : OpR X (compareOp .NotIn) (rNinA X.K) := op_notIn_seq.or ((op_notInD (room65 hr)).or ((op_ninT (room65 hr)).or L2.op_notin_str))
theorem flat_rep {F : Hp} {v : V} {d : D} (f : flatD d = true) (h : Rep G F v d) : flatV v = true := by
  cases h with
  | non => rfl
  | bl b => rfl
  | int i => rfl
  | str x => rfl
  | _ => cases f
theorem flat_reps {F : Hp} : ∀ {vs : List V} {ds : List D}, ds.all flatD = true → Reps G F vs ds → vs.all flatV = true
  | _, _, _, .nil => rfl
  | _, _, f, .cons h r => by
    rw [List.all_cons, Bool.and_eq_true] at f ⊢
    exact ⟨flat_rep f.1 h, flat_reps f.2 r⟩
theorem eqF_rep {F : Hp} {v u : V} {d e : D} (f : flatD d = true) (f' : flatD e = true) (h : Rep G F v d) (h' : Rep G F u e) : eqV v u = eqF d e := by
  cases h <;> cases h' <;> first | rfl | cases f | cases f'
theorem any_rep {F : Hp} {u : V} {e : D} (f' : flatD e = true) (h' : Rep G F u e) : ∀ {vs : List V} {ds : List D}, ds.all flatD = true → Reps G F vs ds → inV u vs = ds.any fun z => eqF z e
  | _, _, _, .nil => rfl
  | _, _, f, .cons h r => by
    rw [List.all_cons, Bool.and_eq_true] at f
    show (eqV _ u || inV u _) = (eqF _ e || List.any _ _)
    rw [eqF_rep f.1 f' h h', any_rep f' h' f.2 r]
theorem bor_flat {F H : Hp} {x : V} {a : D} (f : flatD a = true) (h : Bor G F H x a) : Rep G F x a := by
  cases a with
  | non => exact h
  | bl b => exact h
  | int i => exact h
  | str x => exact h
  | _ => cases f
theorem pys_any (a : PyData) : ∀ ds : List D, (pys ds).any (fun z => PyData.eqv z a) = ds.any fun z => PyData.eqv (py z) a
  | [] => rfl
  | d :: ds => by
    show (PyData.eqv (py d) a || (pys ds).any _) = (PyData.eqv (py d) a || ds.any _)
    rw [pys_any a ds]
/-- what in says, by values -/
theorem inD_cases {F H : Hp} {x : V} {a : D} {p : Addr} {vs : List V} {ds : List D} {k : Bool} (e : Same F H) (ha : Bor G F H x a) (rs : Reps G F vs ds) (q : inD a ds = some k) :
    (flatV x = true ∧ vs.all flatV = true ∧ inV x vs = k) ∨ (Dp G.K H x (py a) ∧ DpAll G.K H vs (pys ds) ∧ SeqAt.shaped (py a) = true ∧ SeqAt.shaped (.list (pys ds)) = true ∧ SeqAt.shaped (.tuple (pys ds)) = true ∧ ((pys ds).any fun z => PyData.eqv z (py a)) = k) := by
  unfold inD at q
  split at q
  · rename_i h
    have h' := Bool.and_eq_true_iff.mp h
    cases q
    exact .inl ⟨flat_rep h'.1 (bor_flat h'.1 ha), flat_reps h'.2 rs, any_rep h'.1 (bor_flat h'.1 ha) h'.2 rs⟩
  · split at q
    · rename_i h
      have h' := Bool.and_eq_true_iff.mp h
      have h1 := Bool.and_eq_true_iff.mp h'.1
      have h2 := Bool.and_eq_true_iff.mp h'.2
      cases q
      have s2 := shaped_of h'.2
      exact .inr ⟨ha.dp e h1.1, Reps.dp e h2.1 rs, shaped_of h'.1, s2, by
        have z : dOk (.tup ds) = true := h'.2
        exact shaped_of z, pys_any _ _⟩
    · cases q
theorem d_inA : OpD G (rInA G.K) gIn := fun F H x y a b d Q e ha hb q k => by
  unfold gIn at q
  split at q
  · rename_i ds
    obtain ⟨p, vs, rfl, hp, rs⟩ := hb
    cases q1 : inD a ds with
    | none => rw [q1] at q; cases q
    | some kk =>
      rw [q1] at q; cases q
      rcases inD_cases (p := p) e ha rs q1 with ⟨h1, h2, h3⟩ | ⟨h1, h2, h3, h4, h5, h6⟩
      · exact .inl ⟨p, vs, rfl, .inl hp, h1, h2, by rw [if_neg Bool.false_ne_true, h3]; exact k F H _ (.refl e) (.bl _)⟩
      · exact .inr (.inl ⟨_, _, h1, .lst hp h2, h3, h4, by rw [h6]; exact k F H _ (.refl e) (.bl _)⟩)
  · rename_i ds
    cases hb with | tup hp rs =>
    cases q1 : inD a ds with
    | none => rw [q1] at q; cases q
    | some kk =>
      rw [q1] at q; cases q
      rename_i p vs
      rcases inD_cases (p := p) e ha rs q1 with ⟨h1, h2, h3⟩ | ⟨h1, h2, h3, h4, h5, h6⟩
      · exact .inl ⟨p, vs, rfl, .inr (.of (e _ _ hp)), h1, h2, by rw [if_neg Bool.false_ne_true, h3]; exact k F H _ (.refl e) (.bl _)⟩
      · exact .inr (.inr (.inl ⟨_, _, h1, .tup (.of (e _ _ hp)) h2, h3, h5, by rw [h6]; exact k F H _ (.refl e) (.bl _)⟩))
  · cases q; cases ha; cases hb; exact .inr (.inr (.inr ⟨_, _, rfl, rfl, k F H _ (.refl e) (.bl _)⟩))
  · cases q
theorem d_ninA : OpD G (rNinA G.K) gNin := fun F H x y a b d Q e ha hb q k => by
  unfold gNin at q
  split at q
  · rename_i ds
    obtain ⟨p, vs, rfl, hp, rs⟩ := hb
    cases q1 : inD a ds with
    | none => rw [q1] at q; cases q
    | some kk =>
      rw [q1] at q; cases q
      rcases inD_cases (p := p) e ha rs q1 with ⟨h1, h2, h3⟩ | ⟨h1, h2, h3, h4, h5, h6⟩
      · exact .inl ⟨p, vs, rfl, .inl hp, h1, h2, by rw [if_pos rfl, h3]; exact k F H _ (.refl e) (.bl _)⟩
      · exact .inr (.inl ⟨_, _, h1, .lst hp h2, h3, h4, by rw [h6]; exact k F H _ (.refl e) (.bl _)⟩)
  · rename_i ds
    cases hb with | tup hp rs =>
    cases q1 : inD a ds with
    | none => rw [q1] at q; cases q
    | some kk =>
      rw [q1] at q; cases q
      rename_i p vs
      rcases inD_cases (p := p) e ha rs q1 with ⟨h1, h2, h3⟩ | ⟨h1, h2, h3, h4, h5, h6⟩
      · exact .inl ⟨p, vs, rfl, .inr (.of (e _ _ hp)), h1, h2, by rw [if_pos rfl, h3]; exact k F H _ (.refl e) (.bl _)⟩
      · exact .inr (.inr (.inl ⟨_, _, h1, .tup (.of (e _ _ hp)) h2, h3, h5, by rw [h6]; exact k F H _ (.refl e) (.bl _)⟩))
  · cases q; cases ha; cases hb; exact .inr (.inr (.inr ⟨_, _, rfl, rfl, k F H _ (.refl e) (.bl _)⟩))
  · cases q
end
end S

set_option Elab.async false
set_option linter.all false
set_option maxRecDepth 100000
set_option maxHeartbeats 4000000
namespace S
open PySem PySem.Spec PyProof.Rows L2

section
variable {G : Par} {F H F' H' : Hp}
/-! ### x[i] -/
def gIx : D → D → Option D
  | .lst ds, .int i => atI ds i
  | .tup ds, .int i => atI ds i
  | .str z, .int i => if z.length ≤ 1000000 then (atI z.cps.toList i).map fun c => .str ⟨#[c]⟩ else none
  | _, _ => none
theorem reps_at {vs : List V} {ds : List D} {i : Int} {d : D} (r : Reps G F vs ds) (q : atI ds i = some d) : ∃ v, atI vs i = some v ∧ Rep G F v d := by
  unfold atI at q ⊢
  rw [r.length]
  cases e : ixN ds.length i with
  | none => rw [e] at q; cases q
  | some j => rw [e] at q; exact r.get j q
theorem d_ix : OpD G (rIx G.K) gIx := fun F H x y a b d Q e ha hb q k => by
  unfold gIx at q
  split at q
  · obtain ⟨p, vs, rfl, hp, rs⟩ := ha
    cases hb
    obtain ⟨v, h1, h2⟩ := reps_at rs q
    exact .inl ⟨p, vs, _, v, rfl, rfl, hp, h1, k F H v (.refl e) h2⟩
  · cases ha with | tup hp rs =>
    cases hb
    obtain ⟨v, h1, h2⟩ := reps_at rs q
    exact .inr (.inl ⟨_, _, _, v, rfl, rfl, .of (e _ _ hp), h1, k F H v (.refl e) h2⟩)
  · split at q
    · rename_i z i h
      cases ha; cases hb
      cases q1 : atI z.cps.toList i with
      | none => rw [q1] at q; cases q
      | some c => rw [q1] at q; cases q; exact .inr (.inr ⟨_, _, c, rfl, rfl, le_line h, q1, k F H _ (.refl e) (.str _)⟩)
    · cases q
  · cases q
/-! ### keys -/
def keyOf : D → Option Key
  | .int i => some (.inl i)
  | .str x => some (.inr x)
  | _ => none
def keysOf : List D → Option (List Key)
  | [] => some []
  | d :: ds => match keyOf d, keysOf ds with
    | some k, some ks => some (k :: ks)
    | _, _ => none
def lookD {κ : Type} [DecidableEq κ] (kvs : List (κ × D)) (k : κ) : Option D := (kvs.find? fun kv => decide (kv.1 = k)).map (·.2)
def putD {κ : Type} [DecidableEq κ] (kvs : List (κ × D)) (k : κ) (v : D) : List (κ × D) :=
  if (kvs.any fun kv => decide (kv.1 = k)) = true then kvs.map (fun kv => if kv.1 = k then (kv.1, v) else kv) else kvs ++ [(k, v)]
theorem keyOf_rep {v : V} {d : D} {k : Key} (h : Rep G F v d) (q : keyOf d = some k) : v = kV k := by
  cases h <;> first | (cases q; rfl) | cases q
theorem keyOf_bor {v : V} {d : D} {k : Key} (h : Bor G F H v d) (q : keyOf d = some k) : v = kV k := by
  cases d with
  | int i => exact keyOf_rep (F := F) h q
  | str x => exact keyOf_rep (F := F) h q
  | _ => cases q
theorem keysOf_rep : ∀ {vs : List V} {ds : List D} {ks : List Key}, Reps G F vs ds → keysOf ds = some ks → vs = ks.map kV
  | _, _, _, .nil, q => by cases q; rfl
  | _, _, ks, .cons (d := d) (ds := ds) h r, q => by
    unfold keysOf at q
    cases q1 : keyOf d with
    | none => rw [q1] at q; simp at q
    | some k1 =>
      cases q2 : keysOf ds with
      | none => rw [q1, q2] at q; simp at q
      | some k2 =>
        rw [q1, q2] at q
        cases q
        rw [keyOf_rep h q1, keysOf_rep r q2]; rfl
theorem lookK_rep {kvs : List (Key × V)} {ds : List (Key × D)} (k : Key) (r : RepK G F kvs ds) : (lookD ds k = none ∧ valV kvs k = none) ∨ ∃ v d, lookD ds k = some d ∧ valV kvs k = some v ∧ Rep G F v d := by
  revert r
  induction kvs generalizing ds with
  | nil => intro r; cases r; exact .inl ⟨rfl, rfl⟩
  | cons kv kvs ih =>
    intro r
    cases r with
    | cons h r =>
      rename_i k' v d ds
      by_cases e : k' = k
      · exact .inr ⟨v, d, by simp [lookD, e], by simp [valV, e], h⟩
      · rcases ih r with ⟨h1, h2⟩ | ⟨v2, d2, h1, h2, h3⟩
        · exact .inl ⟨by simpa [lookD, e] using h1, by simpa [valV, e] using h2⟩
        · exact .inr ⟨v2, d2, by simpa [lookD, e] using h1, by simpa [valV, e] using h2, h3⟩
theorem lookT_rep {kvs : List (List Key × V)} {ds : List (List Key × D)} (k : List Key) (r : RepT G F kvs ds) : (lookD ds k = none ∧ valV kvs k = none) ∨ ∃ v d, lookD ds k = some d ∧ valV kvs k = some v ∧ Rep G F v d := by
  revert r
  induction kvs generalizing ds with
  | nil => intro r; cases r; exact .inl ⟨rfl, rfl⟩
  | cons kv kvs ih =>
    intro r
    cases r with
    | cons h r =>
      rename_i k' v d ds
      by_cases e : k' = k
      · exact .inr ⟨v, d, by simp [lookD, e], by simp [valV, e], h⟩
      · rcases ih r with ⟨h1, h2⟩ | ⟨v2, d2, h1, h2, h3⟩
        · exact .inl ⟨by simpa [lookD, e] using h1, by simpa [valV, e] using h2⟩
        · exact .inr ⟨v2, d2, by simpa [lookD, e] using h1, by simpa [valV, e] using h2, h3⟩
theorem keysK_rep : ∀ {kvs : List (Key × V)} {ds : List (Key × D)}, RepK G F kvs ds → kvs.map (·.1) = ds.map (·.1)
  | _, _, .nil => rfl
  | _, _, .cons h r => by rw [List.map_cons, List.map_cons, keysK_rep r]
theorem keysT_rep : ∀ {kvs : List (List Key × V)} {ds : List (List Key × D)}, RepT G F kvs ds → kvs.map (·.1) = ds.map (·.1)
  | _, _, .nil => rfl
  | _, _, .cons h r => by rw [List.map_cons, List.map_cons, keysT_rep r]
theorem lenK_rep {kvs : List (Key × V)} {ds : List (Key × D)} (r : RepK G F kvs ds) : kvs.length = ds.length := by
  have := congrArg List.length (keysK_rep r); simpa using this
theorem lenT_rep {kvs : List (List Key × V)} {ds : List (List Key × D)} (r : RepT G F kvs ds) : kvs.length = ds.length := by
  have := congrArg List.length (keysT_rep r); simpa using this
theorem anyK_rep {κ : Type} [DecidableEq κ] {kvs : List (κ × V)} {ds : List (κ × D)} (k : κ) (e : kvs.map (·.1) = ds.map (·.1)) : (kvs.any fun kv => decide (kv.1 = k)) = ds.any fun kv => decide (kv.1 = k) := by
  have h1 : (kvs.any fun kv => decide (kv.1 = k)) = (kvs.map (·.1)).any fun x => decide (x = k) := by rw [List.any_map]; rfl
  have h2 : (ds.any fun kv => decide (kv.1 = k)) = (ds.map (·.1)).any fun x => decide (x = k) := by rw [List.any_map]; rfl
  rw [h1, h2, e]
theorem mapK_rep (k : Key) {v : V} {d : D} (h : Rep G F v d) : ∀ {kvs : List (Key × V)} {ds : List (Key × D)}, RepK G F kvs ds → RepK G F (kvs.map fun kv => if kv.1 = k then (kv.1, v) else kv) (ds.map fun kv => if kv.1 = k then (kv.1, d) else kv)
  | _, _, .nil => .nil
  | _, _, .cons (k := k') h' r => by
    rw [List.map_cons, List.map_cons]
    by_cases e : k' = k
    · simp only [e, if_true]; exact .cons h (mapK_rep k h r)
    · simp only [e, if_false]; exact .cons h' (mapK_rep k h r)
theorem mapT_rep (k : List Key) {v : V} {d : D} (h : Rep G F v d) : ∀ {kvs : List (List Key × V)} {ds : List (List Key × D)}, RepT G F kvs ds → RepT G F (kvs.map fun kv => if kv.1 = k then (kv.1, v) else kv) (ds.map fun kv => if kv.1 = k then (kv.1, d) else kv)
  | _, _, .nil => .nil
  | _, _, .cons (k := k') h' r => by
    rw [List.map_cons, List.map_cons]
    by_cases e : k' = k
    · simp only [e, if_true]; exact .cons h (mapT_rep k h r)
    · simp only [e, if_false]; exact .cons h' (mapT_rep k h r)
theorem RepK.append : ∀ {vs : List (Key × V)} {ds : List (Key × D)} {ws : List (Key × V)} {es : List (Key × D)}, RepK G F vs ds → RepK G F ws es → RepK G F (vs ++ ws) (ds ++ es)
  | _, _, _, _, .nil, r => r
  | _, _, _, _, .cons h r, r' => .cons h (RepK.append r r')
theorem RepT.append : ∀ {vs : List (List Key × V)} {ds : List (List Key × D)} {ws : List (List Key × V)} {es : List (List Key × D)}, RepT G F vs ds → RepT G F ws es → RepT G F (vs ++ ws) (ds ++ es)
  | _, _, _, _, .nil, r => r
  | _, _, _, _, .cons h r, r' => .cons h (RepT.append r r')
theorem putK_rep {kvs : List (Key × V)} {ds : List (Key × D)} (k : Key) {v : V} {d : D} (h : Rep G F v d) (r : RepK G F kvs ds) : RepK G F (putK kvs k v) (putD ds k d) := by
  unfold putK putD
  rw [anyK_rep k (keysK_rep r)]
  split
  · exact mapK_rep k h r
  · exact r.append (.cons h .nil)
theorem putT_rep {kvs : List (List Key × V)} {ds : List (List Key × D)} (k : List Key) {v : V} {d : D} (h : Rep G F v d) (r : RepT G F kvs ds) : RepT G F (putK kvs k v) (putD ds k d) := by
  unfold putK putD
  rw [anyK_rep k (keysT_rep r)]
  split
  · exact mapT_rep k h r
  · exact r.append (.cons h .nil)
/-- what a dict holds at a key: none at all, nothing, a thing -/
def dGet (d y : D) : Option (Option D) := match d, y with
  | .dK kvs, y => (keyOf y).map fun k => lookD kvs k
  | .dT kvs, .tup ds => (keysOf ds).map fun k => lookD kvs k
  | _, _ => none
def gDix : D → D → Option D := fun d y => (dGet d y).bind id
def gDin : D → D → Option D := fun y d => (dGet d y).map fun o => .bl o.isSome
def gDnin : D → D → Option D := fun y d => (dGet d y).map fun o => .bl (!o.isSome)
theorem dGet_rep {x y : V} {d k : D} {o : Option D} (e : Same F H) (hd : Bor G F H x d) (hy : Bor G F H y k) (q : dGet d k = some o) :
    ∃ a ov, x = .ref a ∧ DGet H a y ov ∧ ((o = none ∧ ov = none) ∨ ∃ w z, o = some w ∧ ov = some z ∧ Rep G F z w) := by
  unfold dGet at q
  split at q
  · rename_i kvs
    obtain ⟨a, vs, rfl, hr, rk⟩ := hd
    cases q1 : keyOf k with
    | none => rw [q1] at q; cases q
    | some kk =>
      rw [q1] at q
      have q' := Option.some.inj q
      refine ⟨a, valV vs kk, rfl, .inl ⟨vs, kk, hr, keyOf_bor hy q1, rfl⟩, ?_⟩
      rcases lookK_rep kk rk with ⟨h1, h2⟩ | ⟨v, w, h1, h2, h3⟩
      · exact .inl ⟨by rw [← q']; exact h1, h2⟩
      · exact .inr ⟨w, v, by rw [← q']; exact h1, h2, h3⟩
  · rename_i kvs ds
    obtain ⟨a, vs, rfl, hr, rk⟩ := hd
    cases q1 : keysOf ds with
    | none => rw [q1] at q; cases q
    | some kk =>
      rw [q1] at q
      have q' := Option.some.inj q
      cases hy with | tup hp rs =>
      rename_i b ws
      refine ⟨a, valV vs kk, rfl, .inr ⟨vs, kk, b, hr, rfl, by rw [e _ _ hp, keysOf_rep rs q1], rfl⟩, ?_⟩
      rcases lookT_rep kk rk with ⟨h1, h2⟩ | ⟨v, w, h1, h2, h3⟩
      · exact .inl ⟨by rw [← q']; exact h1, h2⟩
      · exact .inr ⟨w, v, by rw [← q']; exact h1, h2, h3⟩
  · cases q
end

section
variable {X : Cx} {G : Par} {W : WX} {k : Nat} {e a b c i o : Expr} {es : List Expr} {pos : Pos} {fa fb fc fd : DEnv → R D} {fs : DEnv → R (List D)}
theorem e_ix (ha : PE X a (rdB G W fa)) (hb : PE X b (rdB G W fb)) (hK : X.K = G.K := by rfl) (hs : PlainIx b := by exact fun _ _ => rfl) : PE X (.Subscript a b pos) (rdE G W (mOp gIx fa fb)) := by
  refine pe_mono (pe_ix ix_seq ha hb hs) fun σ H Q h => ?_
  rw [hK]
  exact rd_op d_ix h
/-! ### dicts -/
theorem room1 {A : Around} {k : Nat} (hr : Room k A) : A.units + 1 < cLine := by have := hr.un; omega
theorem e_dix (hS : Sit X W k) (ho : PE X o (rdB G W fd)) (hi : PE X i (rdB G W fa)) (hs : NoSl i := by exact fun _ _ => rfl) : PE X (.Subscript o i pos) (rdE G W (mOp gDix fd fa)) :=
  pe_mono (pe_dget (room1 hS.room) ho hi hs) fun σ H Q ⟨H0, F0, F, env, s, o⟩ => ⟨H0, F0, F, env, s, o.step fun x F1 H1 v s1 f1 h1 r1 o1 => ⟨H0, F0, F1, env, s1, o1.step fun y F2 H2 u s2 f2 h2 r2 o2 => by
    unfold gDix at o2
    cases q : dGet x y with
    | none => rw [q] at o2; exact o2.elim
    | some oo =>
      rw [q] at o2
      obtain ⟨aa, ov, rfl, g, h⟩ := dGet_rep s2.fh (r1.mono f2 h2) r2 q
      rcases h with ⟨rfl, rfl⟩ | ⟨w, z, rfl, rfl, hz⟩
      · exact o2.elim
      · exact ⟨aa, z, rfl, g, o2 F2 H2 z s2 (.refl _) (.refl _) hz⟩⟩⟩
theorem rd_din {neg : Bool} {g : D → D → Option D} (hg : ∀ y d, g y d = (dGet d y).map fun o => .bl (if neg then !o.isSome else o.isSome)) {σ : L2.St} {H : Hp} {Q : VK} (h : rdE G W (mOp g fa fd) σ H Q) :
    rdB G W fa σ H fun y H1 => rdB G W fd σ H1 fun x H2 => ∃ a o, x = .ref a ∧ DGet H2 a y o ∧ Q (.bl (if neg then !o.isSome else o.isSome)) H2 := by
  obtain ⟨H0, F0, F, env, s, o⟩ := h
  refine ⟨H0, F0, F, env, s, o.step fun y F1 H1 v s1 f1 h1 r1 o1 => ⟨H0, F0, F1, env, s1, o1.step fun x F2 H2 u s2 f2 h2 r2 o2 => ?_⟩⟩
  rw [hg] at o2
  cases q : dGet x y with
  | none => rw [q] at o2; exact o2.elim
  | some oo =>
    rw [q] at o2
    obtain ⟨aa, ov, rfl, gg, h⟩ := dGet_rep s2.fh r2 (r1.mono f2 h2) q
    refine ⟨aa, ov, rfl, gg, ?_⟩
    have e1 : ov.isSome = oo.isSome := by rcases h with ⟨rfl, rfl⟩ | ⟨w, z, rfl, rfl, _⟩ <;> rfl
    rw [e1]
    exact o2 F2 H2 _ s2 (.refl _) (.refl _) (.bl _)
theorem t_din (hS : Sit X W k) (hi : PE X i (rdB G W fa)) (ho : PE X o (rdB G W fd)) (hm : behindInMarks .In o = false := by first | rfl | with_unfolding_all rfl) : PT X (.Compare i [.In] [o] pos) (rdT G W (mTest (mOp gDin fa fd))) :=
  pt_mono (pt_cmp (pc_din (room1 hS.room) hi ho) hm) fun _ _ _ h => tst (fun _ _ _ q => rd_din (neg := false) (fun _ _ => rfl) q) h
theorem t_dnin (hS : Sit X W k) (hi : PE X i (rdB G W fa)) (ho : PE X o (rdB G W fd)) (hm : behindInMarks .NotIn o = false := by first | rfl | with_unfolding_all rfl) : PT X (.Compare i [.NotIn] [o] pos) (rdT G W (mTest (mOp gDnin fa fd))) :=
  pt_mono (pt_cmp (pc_dnotin (room1 hS.room) hi ho) hm) fun _ _ _ h => tst (fun _ _ _ q => rd_din (neg := true) (fun _ _ => rfl) q) h
theorem e_din (hS : Sit X W k) (hi : PE X i (rdB G W fa)) (ho : PE X o (rdB G W fd)) (hm : behindInMarks .In o = false := by first | rfl | with_unfolding_all rfl) : PE X (.Compare i [.In] [o] pos) (rdE G W (mOp gDin fa fd)) :=
  pe_mono (pe_cmp (pc_din (room1 hS.room) hi ho) hm) fun _ _ _ q => rd_din (neg := false) (fun _ _ => rfl) q
theorem e_dnin (hS : Sit X W k) (hi : PE X i (rdB G W fa)) (ho : PE X o (rdB G W fd)) (hm : behindInMarks .NotIn o = false := by first | rfl | with_unfolding_all rfl) : PE X (.Compare i [.NotIn] [o] pos) (rdE G W (mOp gDnin fa fd)) :=
  pe_mono (pe_cmp (pc_dnotin (room1 hS.room) hi ho) hm) fun _ _ _ q => rd_din (neg := true) (fun _ _ => rfl) q
/-- {} whose keys will be ints and texts, tuples -/
def mNewK : DEnv → R Own := fun _ => .ok (.dK [])
def mNewT : DEnv → R Own := fun _ => .ok (.dT [])
theorem n_new {c : Own} {o : HO} (hc : ∀ F H p, OwnAt G F (upd H p o) p c) {σ : L2.St} {H : Hp} {Q : VK} (h : rdN G W (fun _ => .ok c) σ H Q) (d : Addr) (hd : H d = none) : Q (.ref d) (upd H d o) := by
  obtain ⟨H0, F0, F, env, s, ok⟩ := h
  refine ok F _ d (s.heap (fun b u z => ?_) (fun b u z => ?_) fun i qq c q e1 e2 => ?_) (.refl _) (fun b u z => ?_) hd (s.fh.free hd) (hc _ _ _)
  · rw [upd_ne (ne_of_none (s.h0 _ _ z) hd)]; exact s.h0 _ _ z
  · rw [upd_ne (ne_of_none (s.fh _ _ z) hd)]; exact s.fh _ _ z
  · exact upd_ne fun z => by subst z; exact s.notOwn hd i qq c e1 e2
  · rw [upd_ne (ne_of_none z hd)]; exact z
theorem n_newK : PE X (.Dict [] [] pos) (rdN G W mNewK) := pe_mono pe_dnewK fun σ H Q h => fun d hd => n_new (c := .dK []) (o := .dK []) (fun _ _ _ => ⟨[], upd_same, .nil⟩) h d hd
theorem n_newT : PE X (.Dict [] [] pos) (rdN G W mNewT) := pe_mono pe_dnewT fun σ H Q h => fun d hd => n_new (c := .dT []) (o := .dT []) (fun _ _ _ => ⟨[], upd_same, .nil⟩) h d hd
/-- d[k] = v, d a dict of one's own -/
def oPut : Own → D → D → Option Own
  | .dK kvs, y, v => if kvs.length < 1000000 then (keyOf y).map fun k => .dK (putD kvs k v) else none
  | .dT kvs, .tup ds, v => if kvs.length < 1000000 then (keysOf ds).map fun k => .dT (putD kvs k v) else none
  | _, _, _ => none
def sPut (i : Nat) (fk fv : DEnv → R D) : DEnv → Out := fun env => match env[i]? with
  | some (some (.ow q c)) => outR (fv env) env fun v => outR (fk env) env fun y => match oPut c y v with
    | some c' => .nx (env.set i (some (.ow q c')))
    | none => .bad
  | _ => .bad
theorem oPut_rep {G : Par} {F H : Hp} {p : Addr} {c c' : Own} {y v : D} {yy vv : V} (e : Same F H) (w : OwnAt G F H p c) (r2 : Rep G F yy y) (r1 : Rep G F vv v) (q3 : oPut c y v = some c') :
    ∃ o', DPut H p yy vv (upd H p o') ∧ OwnAt G F (upd H p o') p c' := by
  unfold oPut at q3
  split at q3
  · split at q3
    · rename_i hl
      obtain ⟨vs, hp, rk⟩ := w
      obtain ⟨kk, q4, rfl⟩ := Option.map_eq_some_iff.mp q3
      exact ⟨_, .inl ⟨vs, kk, hp, keyOf_rep r2 q4, lt_line (by rw [lenK_rep rk]; exact hl), rfl⟩, ⟨_, upd_same, putK_rep kk r1 rk⟩⟩
    · cases q3
  · split at q3
    · rename_i hl
      obtain ⟨vs, hp, rk⟩ := w
      obtain ⟨kk, q4, rfl⟩ := Option.map_eq_some_iff.mp q3
      cases r2 with | tup hq rs =>
      exact ⟨_, .inr ⟨vs, kk, _, hp, rfl, by rw [e _ _ hq, keysOf_rep rs q4], lt_line (by rw [lenT_rep rk]; exact hl), rfl⟩, ⟨_, upd_same, putT_rep kk r1 rk⟩⟩
    · cases q3
  · cases q3
theorem y_put (i : Nat) {x : Str} {p2 ppos : Pos} {ke ve : Expr} (hS : Sit X W k) (hk : PE X ke (rdE G W fa)) (hv : PE X ve (rdE G W fb)) (hN : X.N[i]? = some x := by rfl) (hvi : Vis X.env.scope x := by first | exact Or.inl rfl | exact Or.inr (Or.inl rfl) | exact Or.inr (Or.inr rfl))
    (hd : (x == ("__debug__" : Str)) = false := by decide) (hcd : (x == ("__classdict__" : Str)) = false := by decide) (hs : swapsWith ve (some (.Subscript (.Name x p2) ke ppos)) pos.line X.env = pure false := by rfl) :
    PS X (.Assign [.Subscript (.Name x p2) ke ppos] ve pos) (rdS G W (sPut i fa fb)) := by
  refine ps_mono (ps_dput (room1 hS.room) (pe_var (i := i) hN hvi hd hcd) hk hv hs) fun En σ H ⟨H0, F0, F, env, s, o⟩ => ?_
  unfold sPut at o
  split at o
  · rename_i qq cc q
    refine ⟨H0, F0, F, env, s, OkE.ofOut s o fun v F1 H1 vv _ s1 f1 h1 r1 o1 => ?_⟩
    obtain ⟨u, e1, p, rfl, iq, n0, nf, w⟩ := s1.sl i _ q
    obtain ⟨ob, ho⟩ := w.there
    refine ⟨_, e1, H0, F0, F1, env, s1, OkE.ofOut s1 o1 fun y F2 H2 yy _ s2 f2 h2 r2 o2 => ?_⟩
    cases q3 : oPut cc y v with
    | none => rw [q3] at o2; exact o2.elim
    | some c' =>
      rw [q3] at o2
      obtain ⟨o', h3, h4⟩ := oPut_rep s2.fh (w.mono f2 ((h2 _ _ ho).trans ho.symm)) r2 (Rep.mono f2 r1) q3
      exact ⟨p, _, rfl, h3, o2 F2 _ σ (s2.put q e1 h4)⟩
  · exact o.elim
end
end S

set_option Elab.async false
set_option linter.all false
set_option maxRecDepth 100000
set_option maxHeartbeats 4000000
namespace S
open PySem PySem.Spec PyProof.Rows L2

theorem CallR.or {X : Cx} {f : Value} {r r' : List V → Hp → VK → Prop} (h : CallR X f r) (h' : CallR X f r') : CallR X f (fun xs H Q => r xs H Q ∨ r' xs H Q) := fun pins s σ H xs us Q I rs q => by
  rcases q with q | q
  · exact h pins s σ H xs us Q I rs q
  · exact h' pins s σ H xs us Q I rs q
section
variable {G : Par} {F H : Hp}
theorem bors1 {xs : List V} {a : D} (h : Bors G F H xs [a]) : ∃ x, xs = [x] ∧ Bor G F H x a := by
  cases h with | cons h r => cases r; exact ⟨_, rfl, h⟩
theorem bors2 {xs : List V} {a b : D} (h : Bors G F H xs [a, b]) : ∃ x y, xs = [x, y] ∧ Bor G F H x a ∧ Bor G F H y b := by
  cases h with | cons h r => cases r with | cons h' r => cases r; exact ⟨_, _, rfl, h, h'⟩

/-! ### len -/
def gLen : List D → Option D
  | [.lst ds] => some (.int ds.length)
  | [.tup ds] => some (.int ds.length)
  | [.str z] => if z.length ≤ 1000000 then some (.int z.length) else none
  | [.dK kvs] => some (.int kvs.length)
  | [.dT kvs] => some (.int kvs.length)
  | _ => none
def rLenK : List V → Hp → VK → Prop := fun xs H Q => ∃ (p : Addr) (kvs : List (Key × V)), xs = [.ref p] ∧ Rd H p (.dK kvs) ∧ Q (.int ((kvs.length : Nat) : Int)) H
def rLenT' : List V → Hp → VK → Prop := fun xs H Q => ∃ (p : Addr) (kvs : List (List Key × V)), xs = [.ref p] ∧ Rd H p (.dT kvs) ∧ Q (.int ((kvs.length : Nat) : Int)) H
theorem cl_lenT {X : Cx} : CallR X (.builtin "len") rLenT' := fun pins s σ H xs us Q I r ⟨p, kvs, ex, hp, q⟩ => by
  subst ex
  obtain ⟨u, rfl, rx⟩ := vals1 r
  obtain rfl : u = .ref p := rx
  obtain ⟨z, hd, ys, rel, dd⟩ := dt_rd I.hok hp
  have hl : kvs.length = ys.length := Paired.length rel
  have e1 : (ys.length : Int) < 2 ^ 63 := by rw [← hl]; rw [sizeLine_eq] at z; omega
  refine call_len_dictH hd dd e1 ?_
  rw [← hl]
  exact ⟨.int ((kvs.length : Nat) : Int), H, I.tok _, ⟨_, rfl⟩, q⟩
theorem cl_lenK {X : Cx} : CallR X (.builtin "len") rLenK := fun pins s σ H xs us Q I r ⟨p, kvs, ex, hp, q⟩ => by
  subst ex
  obtain ⟨u, rfl, rx⟩ := vals1 r
  obtain rfl : u = .ref p := rx
  exact d_len I hp fun t s' I' => ⟨.int kvs.length, H, I', ⟨t, rfl⟩, q⟩
def rLenA (K : PySem.W.Frag) : List V → Hp → VK → Prop := fun xs H Q => (∃ p ys, xs = [.ref p] ∧ (SqL K H p ys ∨ SqT K H p ys) ∧ Q (.int ys.length) H) ∨ (∃ z, xs = [.str z] ∧ z.length ≤ sizeLine ∧ Q (.int z.length) H) ∨ rLenK xs H Q ∨ rLenT' xs H Q
theorem cl_lenA {X : Cx} : CallR X (.builtin "len") (rLenA X.K) := CallR.or call_len_seq (CallR.or call_len_str (CallR.or cl_lenK cl_lenT))
theorem d_len' : ApD G (rLenA G.K) gLen := fun F H xs as d Q e hb q k => by
  unfold gLen at q
  split at q
  · cases q
    obtain ⟨x, rfl, a, vs, rfl, h, r⟩ := bors1 hb
    exact .inl ⟨a, vs, rfl, .inl h, by rw [r.length]; exact k F H _ (.refl e) (.int _)⟩
  · cases q
    obtain ⟨x, rfl, h⟩ := bors1 hb
    cases h with | tup h r => exact .inl ⟨_, _, rfl, .inr (.of (e _ _ h)), by rw [r.length]; exact k F H _ (.refl e) (.int _)⟩
  · split at q
    · rename_i h
      cases q
      obtain ⟨x, rfl, h'⟩ := bors1 hb
      cases h'
      exact .inr (.inl ⟨_, rfl, le_line h, k F H _ (.refl e) (.int _)⟩)
    · cases q
  · cases q
    obtain ⟨x, rfl, a, vs, rfl, h, r⟩ := bors1 hb
    exact .inr (.inr (.inl ⟨a, vs, rfl, h, by rw [lenK_rep r]; exact k F H _ (.refl e) (.int _)⟩))
  · cases q
    obtain ⟨x, rfl, a, vs, rfl, h, r⟩ := bors1 hb
    exact .inr (.inr (.inr ⟨a, vs, rfl, h, by rw [lenT_rep r]; exact k F H _ (.refl e) (.int _)⟩))
  · cases q
/-! ### min, max, abs, sum, any, all -/
def gMax2 : List D → Option D
  | [.int i, .int j] => some (.int (if j > i then j else i))
  | _ => none
def gMin2 : List D → Option D
  | [.int i, .int j] => some (.int (if j < i then j else i))
  | _ => none
theorem d_max2 : ApD G (fun xs H Q => ∃ i j, xs = [.int i, .int j] ∧ Q (.int (if j > i then j else i)) H) gMax2 := fun F H xs as d Q e hb q k => by
  unfold gMax2 at q
  split at q
  · cases q; obtain ⟨x, y, rfl, h1, h2⟩ := bors2 hb; cases h1; cases h2; exact ⟨_, _, rfl, k F H _ (.refl e) (.int _)⟩
  · cases q
theorem d_min2 : ApD G (fun xs H Q => ∃ i j, xs = [.int i, .int j] ∧ Q (.int (if j < i then j else i)) H) gMin2 := fun F H xs as d Q e hb q k => by
  unfold gMin2 at q
  split at q
  · cases q; obtain ⟨x, y, rfl, h1, h2⟩ := bors2 hb; cases h1; cases h2; exact ⟨_, _, rfl, k F H _ (.refl e) (.int _)⟩
  · cases q
def intsOf : List D → Option (List Int)
  | [] => some []
  | .int i :: ds => (intsOf ds).map (i :: ·)
  | _ :: _ => none
def blsOf : List D → Option (List Bool)
  | [] => some []
  | .bl i :: ds => (blsOf ds).map (i :: ·)
  | _ :: _ => none
theorem intsOf_eq : ∀ {ds : List D} {ns : List Int}, intsOf ds = some ns → ds = ns.map D.int
  | [], _, h => by cases h; rfl
  | .int i :: ds, _, h => by
    obtain ⟨ms, h1, rfl⟩ := Option.map_eq_some_iff.mp (show (intsOf ds).map (i :: ·) = some _ from h)
    rw [intsOf_eq h1]; rfl
  | .non :: _, _, h => by cases h
  | .bl _ :: _, _, h => by cases h
  | .str _ :: _, _, h => by cases h
  | .lst _ :: _, _, h => by cases h
  | .tup _ :: _, _, h => by cases h
  | .dK _ :: _, _, h => by cases h
  | .dT _ :: _, _, h => by cases h
  | .obj _ _ :: _, _, h => by cases h
theorem blsOf_eq : ∀ {ds : List D} {ns : List Bool}, blsOf ds = some ns → ds = ns.map D.bl
  | [], _, h => by cases h; rfl
  | .bl i :: ds, _, h => by
    obtain ⟨ms, h1, rfl⟩ := Option.map_eq_some_iff.mp (show (blsOf ds).map (i :: ·) = some _ from h)
    rw [blsOf_eq h1]; rfl
  | .non :: _, _, h => by cases h
  | .int _ :: _, _, h => by cases h
  | .str _ :: _, _, h => by cases h
  | .lst _ :: _, _, h => by cases h
  | .tup _ :: _, _, h => by cases h
  | .dK _ :: _, _, h => by cases h
  | .dT _ :: _, _, h => by cases h
  | .obj _ _ :: _, _, h => by cases h
@[simp] theorem intsOf_map : ∀ ns : List Int, intsOf (ns.map D.int) = some ns
  | [] => rfl
  | n :: ns => by show (intsOf (ns.map D.int)).map (n :: ·) = _; rw [intsOf_map ns]; rfl
@[simp] theorem blsOf_map : ∀ ns : List Bool, blsOf (ns.map D.bl) = some ns
  | [] => rfl
  | n :: ns => by show (blsOf (ns.map D.bl)).map (n :: ·) = _; rw [blsOf_map ns]; rfl
def gSum : List D → Option D
  | [.lst ds] => (intsOf ds).map fun ns => .int ns.sum
  | _ => none
def gAny : List D → Option D
  | [.lst ds] => (blsOf ds).map fun bs => .bl (bs.any id)
  | _ => none
def gAll : List D → Option D
  | [.lst ds] => (blsOf ds).map fun bs => .bl (bs.all id)
  | _ => none
theorem d_sum : ApD G (rSum G.K) gSum := fun F H xs as d Q e hb q k => by
  unfold gSum at q
  split at q
  · obtain ⟨ns, h1, rfl⟩ := Option.map_eq_some_iff.mp q
    obtain ⟨x, rfl, a, vs, rfl, h, r⟩ := bors1 hb
    rw [intsOf_eq h1] at r
    rw [r.ints] at h
    exact ⟨a, ns, rfl, h, k F H _ (.refl e) (.int _)⟩
  · cases q
theorem d_any : ApD G (rAny G.K) gAny := fun F H xs as d Q e hb q k => by
  unfold gAny at q
  split at q
  · obtain ⟨ns, h1, rfl⟩ := Option.map_eq_some_iff.mp q
    obtain ⟨x, rfl, a, vs, rfl, h, r⟩ := bors1 hb
    rw [blsOf_eq h1] at r
    rw [r.bls] at h
    exact ⟨a, ns, rfl, h, k F H _ (.refl e) (.bl _)⟩
  · cases q
theorem d_all : ApD G (rAll G.K) gAll := fun F H xs as d Q e hb q k => by
  unfold gAll at q
  split at q
  · obtain ⟨ns, h1, rfl⟩ := Option.map_eq_some_iff.mp q
    obtain ⟨x, rfl, a, vs, rfl, h, r⟩ := bors1 hb
    rw [blsOf_eq h1] at r
    rw [r.bls] at h
    exact ⟨a, ns, rfl, h, k F H _ (.refl e) (.bl _)⟩
  · cases q
/-! ### tuple(x), list(x), int(x) -/
def gTuple : List D → Option D
  | [.lst ds] => some (.tup ds)
  | [.tup ds] => some (.tup ds)
  | _ => none
def gList : List D → Option Own
  | [.lst ds] => some (.lst ds)
  | [.tup ds] => some (.lst ds)
  | _ => none
def rTup (K : PySem.W.Frag) : List V → Hp → VK → Prop := fun xs H Q => ∃ p ys, xs = [.ref p] ∧ ((SqL K H p ys ∧ ∀ l, H l = none → Q (.ref l) (upd H l (.tup ys))) ∨ (SqT K H p ys ∧ Q (.ref p) H))
def rLst (K : PySem.W.Frag) : List V → Hp → VK → Prop := fun xs H Q => ∃ p ys, xs = [.ref p] ∧ (SqL K H p ys ∨ SqT K H p ys) ∧ ∀ l, H l = none → Q (.ref l) (upd H l (.lst ys))
theorem d_tuple : ApD G (rTup G.K) gTuple := fun F H xs as d Q e hb q k => by
  unfold gTuple at q
  split at q
  · cases q
    obtain ⟨x, rfl, a, vs, rfl, h, r⟩ := bors1 hb
    refine ⟨a, vs, rfl, .inl ⟨h, fun l hl => ?_⟩⟩
    have ex := Ext.new (o := .tup vs) e hl
    exact k _ _ _ ex (.tup upd_same (r.mono ex.f))
  · cases q
    obtain ⟨x, rfl, h⟩ := bors1 hb
    have h' := h
    cases h with | tup h r => exact ⟨_, _, rfl, .inr ⟨.of (e _ _ h), k F H _ (.refl e) h'⟩⟩
  · cases q
theorem same_new {H : Hp} {p : Addr} {o : HO} (h : H p = none) : Same H (upd H p o) := fun b u q => by rw [upd_ne (ne_of_none q h)]; exact q
theorem d_list : ApN G (rLst G.K) gList := fun F H xs as c Q e hb q k => by
  unfold gList at q
  split at q
  · cases q
    obtain ⟨x, rfl, a, vs, rfl, h, r⟩ := bors1 hb
    exact ⟨a, vs, rfl, .inl h, fun l hl => k _ l (same_new hl) hl ⟨vs, upd_same, r⟩⟩
  · cases q
    obtain ⟨x, rfl, h⟩ := bors1 hb
    cases h with | tup h r => exact ⟨_, _, rfl, .inr (.of (e _ _ h)), fun l hl => k _ l (same_new hl) hl ⟨_, upd_same, r⟩⟩
  · cases q
def gInt1 : List D → Option D
  | [.int i] => some (.int i)
  | [.bl b] => some (.int (if b then 1 else 0))
  | _ => none
theorem d_int1 : ApD G (fun xs H Q => (∃ i, xs = [.int i] ∧ Q (.int i) H) ∨ ∃ k, xs = [.bl k] ∧ Q (.int (if k then 1 else 0)) H) gInt1 := fun F H xs as d Q e hb q k => by
  unfold gInt1 at q
  split at q
  · cases q; obtain ⟨x, rfl, h⟩ := bors1 hb; cases h; exact .inl ⟨_, rfl, k F H _ (.refl e) (.int _)⟩
  · cases q; obtain ⟨x, rfl, h⟩ := bors1 hb; cases h; exact .inr ⟨_, rfl, k F H _ (.refl e) (.int _)⟩
  · cases q
end

/-! ### attributes of webs -/
section
variable {X : Cx} {G : Par} {W : WX} {k : Nat} {e a b c i o iter tg : Expr} {es : List Expr} {pos : Pos} {fa fb fc fd : DEnv → R D} {fs : DEnv → R (List D)}
/-- what the text says of the class of webs -/
structure WebT (K : PySem.W.Frag) (C : Addr) : Prop where
  cl : Cls K C
  nP : NoAttr K C "places"
  nT : NoAttr K C "ties"
theorem rd_fld {f : Str} {g : D → Option D} (T : WebT G.K G.C) (hf : NoAttr G.K G.C f) (hg : ∀ p t vp vt (fs : List (Str × V)) d, g (.obj p t) = some d → fs.lookup ("places" : Str) = some vp → fs.lookup ("ties" : Str) = some vt → ∃ v, fs.lookup f = some v ∧ ∀ F, Rep G F vp p → Rep G F vt t → Rep G F v d)
    (hn : ∀ d w, g d = some w → ∃ p t, d = .obj p t) {σ : L2.St} {H : Hp} {Q : VK} (h : rdE G W (mUn g fa) σ H Q) : tFld G.K (rdB G W fa) f σ H Q := by
  obtain ⟨H0, F0, F, env, s, o⟩ := h
  refine ⟨H0, F0, F, env, s, o.step fun x F1 H1 v s1 f1 h1 r1 o1 => ?_⟩
  cases q : g x with
  | none => rw [q] at o1; exact o1.elim
  | some w =>
    rw [q] at o1
    obtain ⟨p, t, rfl⟩ := hn _ _ q
    cases r1 with | obj ho hp ht rp rt =>
    obtain ⟨v, hv, hr⟩ := hg _ _ _ _ _ _ q hp ht
    exact ⟨_, _, _, _, v, rfl, s1.fh _ _ ho, T.cl, hf, hv, o1 F1 H1 v s1 (.refl _) (.refl _) (hr F1 rp rt)⟩
theorem e_places (T : WebT G.K G.C) (he : PE X e (rdB G W fa)) (hK : X.K = G.K := by rfl) (hb : attributeBase e "places" X.env (eval e X.env) = eval e X.env := by rfl) : PE X (.Attribute e "places" pos) (rdE G W (mUn dFldP fa)) := by
  refine pe_mono (pe_fld he hb) fun σ H Q h => ?_
  rw [hK]
  exact rd_fld T T.nP (fun p t vp vt fs d q h1 h2 => ⟨vp, h1, fun F r _ => by cases q; exact r⟩) (fun d w q => by cases d <;> first | exact ⟨_, _, rfl⟩ | cases q) h
theorem e_ties (T : WebT G.K G.C) (he : PE X e (rdB G W fa)) (hK : X.K = G.K := by rfl) (hb : attributeBase e "ties" X.env (eval e X.env) = eval e X.env := by rfl) : PE X (.Attribute e "ties" pos) (rdE G W (mUn dFldT fa)) := by
  refine pe_mono (pe_fld he hb) fun σ H Q h => ?_
  rw [hK]
  exact rd_fld T T.nT (fun p t vp vt fs d q h1 h2 => ⟨vt, h2, fun F _ r => by cases q; exact r⟩) (fun d w q => by cases d <;> first | exact ⟨_, _, rfl⟩ | cases q) h

/-! ### slices -/
def mPartN : DEnv → R (Option Int) := fun _ => .ok none
def mPart (f : DEnv → R D) : DEnv → R (Option Int) := fun env => (f env).bind fun d => match d with
  | .int i => .ok (some i)
  | _ => .bad
abbrev rdO (G : Par) (W : WX) (f : DEnv → R (Option Int)) : TO := rd G W vO f
theorem po_mono {x : Option Expr} {t t' : TO} (h : PO X x t) (m : ∀ σ H Q, t' σ H Q → t σ H Q) : PO X x t' := ⟨fun pins s σ H Q I q => h.run pins s σ H Q I (m σ H Q q)⟩
theorem o_none : PO X none (rdO G W mPartN) := po_mono po_none fun σ H Q ⟨H0, F0, F, env, s, o⟩ => o F H none s (.refl _) (.refl _) rfl
theorem o_some (h : PE X e (rdB G W fa)) : PO X (some e) (rdO G W (mPart fa)) := po_mono (po_some h) fun σ H Q ⟨H0, F0, F, env, s, o⟩ => ⟨H0, F0, F, env, s, o.step fun x F1 H1 v s1 f1 h1 r1 o1 => by
  cases x with
  | int i => cases r1; exact ⟨i, rfl, o1 F1 H1 _ s1 (.refl _) (.refl _) rfl⟩
  | _ => exact o1.elim⟩
def cutD (xs : List D) (lo hi : Option Int) : List D := (xs.drop (HT.sIx xs.length 0 lo)).take (HT.sIx xs.length xs.length hi - HT.sIx xs.length 0 lo)
def mSlL (fa : DEnv → R D) (fl fh : DEnv → R (Option Int)) : DEnv → R Own := fun env => (fa env).bind fun d => (fl env).bind fun l => (fh env).bind fun h => match d with
  | .lst ds => .ok (.lst (cutD ds l h))
  | _ => .bad
def mSlT (fa : DEnv → R D) (fl fh : DEnv → R (Option Int)) : DEnv → R D := fun env => (fa env).bind fun d => (fl env).bind fun l => (fh env).bind fun h => match d with
  | .tup ds => .ok (.tup (cutD ds l h))
  | _ => .bad
theorem cut_rep {F : Hp} {vs : List V} {ds : List D} (lo hi : Option Int) (r : Reps G F vs ds) : Reps G F (cutV vs lo hi) (cutD ds lo hi) := by
  unfold cutV cutD
  rw [r.length]
  exact (r.drop _).take _
variable {lo hi : Option Expr} {p2 : Pos} {fl fh : DEnv → R (Option Int)}
theorem n_slL (ha : PE X a (rdB G W fa)) (hl : PO X lo (rdO G W fl)) (hh : PO X hi (rdO G W fh)) (hK : X.K = G.K := by rfl) : PE X (.Subscript a (.Slice lo hi none p2) pos) (rdN G W (mSlL fa fl fh)) :=
  pe_mono (pe_slice sl_list ha hl hh) fun σ H Q ⟨H0, F0, F, env, s, o⟩ => ⟨H0, F0, F, env, s, by
    unfold mSlL at o
    cases q1 : fa env with
    | exc c n => rw [q1] at o; exact o
    | bad => rw [q1] at o; exact o
    | ok d =>
      rw [q1, R.bind_ok] at o
      intro F1 H1 v s1 f1 h1 r1
      refine ⟨H0, F0, F1, env, s1, ?_⟩
      cases q2 : fl env with
      | exc c n => rw [q2] at o; exact o
      | bad => rw [q2] at o; exact o
      | ok l =>
        rw [q2, R.bind_ok] at o
        intro F2 H2 l' s2 f2 h2 e2
        subst e2
        refine ⟨H0, F0, F2, env, s2, ?_⟩
        cases q3 : fh env with
        | exc c n => rw [q3] at o; exact o
        | bad => rw [q3] at o; exact o
        | ok h =>
          rw [q3, R.bind_ok] at o
          intro F3 H3 h' s3 f3 h3 e3
          subst e3
          cases d with
          | lst ds =>
            obtain ⟨aa, vs, rfl, hq, rs⟩ := r1.mono (f2.trans f3) (h2.trans h3)
            refine ⟨aa, vs, rfl, by rw [hK]; exact hq, fun p hp => ?_⟩
            have nH : H p = none := ((h1.trans h2).trans h3).free hp
            refine o F3 _ p (s3.heap (fun b u z => ?_) (fun b u z => ?_) fun i qq c q e1 e2 => ?_) ((f1.trans f2).trans f3) (((h1.trans h2).trans h3).trans (same_new hp)) nH (s3.fh.free hp) ⟨_, upd_same, cut_rep _ _ rs⟩
            · rw [upd_ne (ne_of_none (s3.h0 _ _ z) hp)]; exact s3.h0 _ _ z
            · rw [upd_ne (ne_of_none (s3.fh _ _ z) hp)]; exact s3.fh _ _ z
            · exact upd_ne fun z => by subst z; exact s3.notOwn hp i qq c e1 e2
          | _ => exact o.elim⟩
theorem e_slT (ha : PE X a (rdB G W fa)) (hl : PO X lo (rdO G W fl)) (hh : PO X hi (rdO G W fh)) (hK : X.K = G.K := by rfl) : PE X (.Subscript a (.Slice lo hi none p2) pos) (rdE G W (mSlT fa fl fh)) :=
  pe_mono (pe_slice sl_tupA ha hl hh) fun σ H Q ⟨H0, F0, F, env, s, o⟩ => ⟨H0, F0, F, env, s, o.step fun d F1 H1 v s1 f1 h1 r1 o1 => ⟨H0, F0, F1, env, s1, o1.step fun l F2 H2 l' s2 f2 h2 e2 o2 => ⟨H0, F0, F2, env, s2, o2.step fun h F3 H3 h' s3 f3 h3 e3 o3 => by
    subst e2; subst e3
    cases d with
    | tup ds =>
      have r1' := Rep.mono (f2.trans f3) r1
      have r2 := r1'
      cases r1' with | tup hq rs =>
      rename_i vs
      refine ⟨_, vs, rfl, by rw [hK]; exact .of (s3.fh _ _ hq), fun z => ?_, fun z p hp => ?_⟩
      · have e : cutD ds l' h' = ds := by
          unfold cutD
          rw [rs.length] at z
          rw [z.1, z.2, List.drop_zero, Nat.sub_zero, List.take_length]
        dsimp only at o3
        rw [e] at o3
        exact o3 F3 H3 _ s3 (.refl _) (.refl _) r2
      · have ex := Ext.new (o := .tup (cutV vs l' h')) s3.fh hp
        exact o3 _ _ _ (s3.ext ex) ex.f ex.h (.tup upd_same ((cut_rep _ _ rs).mono ex.f))
    | _ => exact o3.elim⟩⟩⟩
end
end S

set_option Elab.async false
set_option linter.all false
set_option maxRecDepth 100000
set_option maxHeartbeats 4000000
namespace S
open PySem PySem.Spec PyProof.Rows L2

section
variable {X : Cx} {G : Par} {W : WX} {k : Nat} {tg e e2 : Expr} {es : List Expr} {pos : Pos} {fa : DEnv → R D} {fs : DEnv → R (List D)} {fi : DEnv → R (List D)}
theorem pi_mono {iter : Expr} {t t' : TI} (h : PI X tg iter t) (m : ∀ σ H R, t' σ H R → t σ H R) : PI X tg iter t' := ⟨fun pins s σ H R I q => h.run pins s σ H R I (m σ H R q)⟩
/-- a walk over what a reading gives -/
theorem rdI_of {α β : Type} {VR : Hp → Hp → β → α → Prop} {r : DEnv → R α} {g : α → Option (List D)} {H0 F0 F H : Hp} {σ : L2.St} {env : DEnv} {T : It → Hp → Prop} {Q : β → Hp → Prop} (s : SR G H0 F0 F H σ env)
    (o : match (r env).bind (fun a => R.ofO (g a)) with
      | .ok ds => ∀ F' H' J, SR G H0 F0 F' H' σ env → Same F F' → Same H H' → Walks G J F' ds → T J H'
      | .exc c n => ∀ cls dd F' H', SR G H0 F0 F' H' σ env → ExcAt G F' cls dd c n → W cls dd σ H'
      | .bad => False)
    (hk : ∀ a ds F1 H1 b, SR G H0 F0 F1 H1 σ env → VR F1 H1 b a → g a = some ds → (∀ J, Walks G J F1 ds → T J H1) → Q b H1) : OkE G W H0 F0 F H σ env VR (r env) Q := by
  cases q : r env with
  | ok a =>
    rw [q] at o
    intro F1 H1 b s1 f1 h1 v
    cases q2 : g a with
    | none => simp only [R.bind_ok, q2, R.ofO_none] at o
    | some ds =>
      simp only [R.bind_ok, q2, R.ofO_some] at o
      exact hk a ds F1 H1 b s1 v q2 fun J w => o F1 H1 J s1 f1 h1 w
  | exc c n => rw [q] at o; exact o
  | bad => rw [q] at o; exact o
def itL : D → Option (List D)
  | .lst ds => some ds
  | _ => none
def itT : D → Option (List D)
  | .tup ds => some ds
  | _ => none
def mIt (g : D → Option (List D)) (fa : DEnv → R D) : DEnv → R (List D) := fun env => (fa env).bind fun d => .ofO (g d)
theorem walk_list {J : It} {F : Hp} {a : Addr} {vs : List V} {ds : List D} (hJ : J = Itl G.K a) (h : ∀ F1 H1, Same F F1 → Same F1 H1 → SqL G.K H1 a vs) (r : Reps G F vs ds) : Walks G J F ds := fun i F1 H1 f h1 => by
  subst hJ
  have hq := h F1 H1 f h1
  refine ⟨fun d hd => ?_, fun hl => ⟨vs, hq, by rw [r.length]; exact hl⟩⟩
  obtain ⟨v, e1, r1⟩ := r.get i hd
  refine ⟨⟨vs, v, hq, e1⟩, fun x H2 y => ?_⟩
  obtain ⟨rfl, y2⟩ := y
  have := y2 vs hq
  rw [e1] at this; cases this
  exact ⟨F1, .refl h1, r1.mono f⟩
/-- for .. in a list that stands still -/
theorem w_list (he : PE X e (rdE G W fa)) (hK : X.K = G.K := by rfl) : PI X tg e (rdI G W (mIt itL fa)) :=
  pi_mono (pi_list he) fun σ H R ⟨H0, F0, F, env, s, o⟩ => ⟨H0, F0, F, env, s, rdI_of s o fun a ds F1 H1 b s1 v q k => by
    cases a with
    | lst es =>
      cases q
      cases v with
      | lst hq r =>
        refine ⟨_, rfl, ⟨_, by rw [hK]; exact same_sqL s1.fh hq⟩, k _ ?_⟩
        rw [hK]
        exact walk_list rfl (fun F2 H2 f h => same_sqL (f.trans h) hq) r
    | _ => cases q⟩
theorem w_tup (he : PE X e (rdE G W fa)) (hK : X.K = G.K := by rfl) : PI X tg e (rdI G W (mIt itT fa)) :=
  pi_mono (pi_tup he) fun σ H R ⟨H0, F0, F, env, s, o⟩ => ⟨H0, F0, F, env, s, rdI_of s o fun a ds F1 H1 b s1 v q k => by
    cases a with
    | tup es =>
      cases q
      cases v with
      | tup hq r =>
        refine ⟨_, rfl, ⟨_, .of (s1.fh _ _ hq)⟩, k _ fun i F2 H2 f h => ?_⟩
        rw [hK]
        have hq2 : SqT G.K H2 _ _ := .of (h _ _ (f _ _ hq))
        refine ⟨fun d hd => ?_, fun hl => ⟨_, hq2, by rw [r.length]; exact hl⟩⟩
        obtain ⟨v, e1, r1⟩ := r.get i hd
        refine ⟨⟨_, v, hq2, e1⟩, fun x H3 y => ?_⟩
        obtain ⟨rfl, y2⟩ := y
        have := y2 _ hq2
        rw [e1] at this; cases this
        exact ⟨F2, .refl h, r1.mono f⟩
    | _ => cases q⟩
/-- for .. in range(..) -/
def itR1 : List D → Option (List D)
  | [.int j] => if j ≤ 1000000 ∧ -1000000 ≤ j then some ((List.range j.toNat).map fun i : Nat => D.int (i : Int)) else none
  | _ => none
def itR2 : List D → Option (List D)
  | [.int i, .int j] => if j ≤ 1000000 ∧ -1000000 ≤ j ∧ i ≤ 1000000 ∧ -1000000 ≤ i then some ((List.range (j - i).toNat).map fun n : Nat => D.int (i + (n : Int))) else none
  | _ => none
def mItA (g : List D → Option (List D)) (fa : DEnv → R (List D)) : DEnv → R (List D) := fun env => (fa env).bind fun d => .ofO (g d)
theorem walk_rng {F : Hp} {lo : Int} {n : Nat} {ds : List D} (h : ds = (List.range n).map fun i : Nat => D.int (lo + (i : Int))) : Walks G (Itr lo n) F ds := fun i F1 H1 f h1 => by
  subst h
  refine ⟨fun d hd => ?_, fun hl => ?_⟩
  · rw [List.getElem?_map] at hd
    by_cases hi : i < n
    · rw [List.getElem?_range hi] at hd
      cases hd
      refine ⟨hi, fun x H2 y => ?_⟩
      obtain ⟨rfl, rfl⟩ := y
      exact ⟨F1, .refl h1, .int _⟩
    · rw [List.getElem?_eq_none (by simpa using hi)] at hd; cases hd
  · show n ≤ i
    simpa using hl
theorem w_range1 {a : Expr} {p : Pos} (ha : PA X [a] (rdA G W fs)) (hm : X.mg "range" = none) (hg : Gl X "range" := by rfl) (hs : starEach [a] X.env = [(false, eval a X.env)] := by rfl) :
    PI X tg (.Call (.Name "range" p) [a] [] pos) (rdI G W (mItA itR1 fs)) :=
  pi_mono (pi_range1 hg hm ha hs) fun σ H R ⟨H0, F0, F, env, s, o⟩ => ⟨H0, F0, F, env, s, rdI_of s o fun a ds F1 H1 b s1 v q k => by
    unfold itR1 at q
    split at q
    · rename_i j
      split at q
      · rename_i hj
        cases q
        cases v with
        | cons v1 v2 =>
          cases v2
          cases v1
          refine ⟨j, rfl, by omega, by omega, k _ (walk_rng ?_)⟩
          simp
      · cases q
    · cases q⟩
theorem w_range2 {a b : Expr} {p : Pos} (ha : PA X [a, b] (rdA G W fs)) (hm : X.mg "range" = none) (hg : Gl X "range" := by rfl) (hs : starEach [a, b] X.env = [(false, eval a X.env), (false, eval b X.env)] := by rfl) (hs2 : starEach [b] X.env = [(false, eval b X.env)] := by rfl) :
    PI X tg (.Call (.Name "range" p) [a, b] [] pos) (rdI G W (mItA itR2 fs)) :=
  pi_mono (pi_range2 hg hm ha hs hs2) fun σ H R ⟨H0, F0, F, env, s, o⟩ => ⟨H0, F0, F, env, s, rdI_of s o fun a ds F1 H1 b s1 v q k => by
    unfold itR2 at q
    split at q
    · rename_i i j
      split at q
      · rename_i hj
        cases q
        cases v with
        | cons v1 v2 =>
          cases v2 with
          | cons v2 v3 =>
          cases v3
          cases v1
          cases v2
          exact ⟨i, j, rfl, ⟨by omega, by omega, by omega, by omega⟩, k _ (walk_rng rfl)⟩
      · cases q
    · cases q⟩
/-- for i, x in enumerate(list), for x, y in zip(..) -/
def itEn : List D → Option (List D)
  | [.lst ds] => some (((List.range ds.length).zip ds).map fun p => D.tup [.int (p.1 : Int), p.2])
  | _ => none
def itZp : List D → Option (List D)
  | [.lst xs, .lst ys] => some ((xs.zip ys).map fun p => .tup [p.1, p.2])
  | [.tup xs, .tup ys] => some ((xs.zip ys).map fun p => .tup [p.1, p.2])
  | _ => none
theorem w_enum {p tpos : Pos} {elts : List Expr} {kk : Nat} (ha : PA X [e] (rdAE G W fs)) (hm : X.mg "enumerate" = none) (hg : Gl X "enumerate" := by rfl) (hs : starEach [e] X.env = [(false, eval e X.env)] := by rfl) (hK : X.K = G.K := by rfl) :
    PI X (.Tuple elts kk tpos) (.Call (.Name "enumerate" p) [e] [] pos) (rdI G W (mItA itEn fs)) :=
  pi_mono (pi_enum hg hm ha hs) fun σ H R ⟨H0, F0, F, env, s, o⟩ => ⟨H0, F0, F, env, s, rdI_of s o fun a ds F1 H1 b s1 v q k => by
    unfold itEn at q
    split at q
    · rename_i es
      cases q
      cases v with
      | cons v1 v2 =>
        cases v2
        cases v1 with
        | lst hq r =>
          refine ⟨_, _, rfl, by rw [hK]; exact same_sqL s1.fh hq, k _ fun i F2 H2 f h => ?_⟩
          rw [hK]
          have hq2 := same_sqL (f.trans h) hq
          refine ⟨fun d hd => ?_, fun hl => ⟨_, hq2, by rw [r.length]; simpa using hl⟩⟩
          obtain ⟨hi, hd2⟩ := List.getElem?_eq_some_iff.mp hd
          have hi' : i < es.length := by simpa using hi
          obtain ⟨v, e1, r1⟩ := r.get i (List.getElem?_eq_getElem hi')
          refine ⟨⟨_, v, hq2, e1⟩, fun x H3 y => ?_⟩
          obtain ⟨T, x1, rfl, hT, rfl, y2⟩ := y
          have := y2 _ hq2
          rw [e1] at this; cases this
          have ex := Ext.new (o := .tup [.int (i : Nat), v]) h hT
          refine ⟨_, ex, ?_⟩
          have : d = .tup [.int (i : Nat), es[i]] := by rw [← hd2]; simp
          rw [this]
          exact .tup upd_same (.cons (.int _) (.cons (Rep.mono (f.trans ex.f) r1) .nil))
    · cases q⟩
theorem w_zip {p tpos : Pos} {elts : List Expr} {kk : Nat} (ha : PA X [e, e2] (rdAE G W fs)) (hm : X.mg "zip" = none) (hg : Gl X "zip" := by rfl) (hs : starEach [e, e2] X.env = (false, eval e X.env) :: starEach [e2] X.env := by rfl) (hpl : (backTo pos (starEach [e2] X.env)).any (·.1) = false := by rfl) (hK : X.K = G.K := by rfl) :
    PI X (.Tuple elts kk tpos) (.Call (.Name "zip" p) [e, e2] [] pos) (rdI G W (mItA itZp fs)) :=
  pi_mono (RZ.pi_zipA hg hm ha hs hpl) fun σ H R ⟨H0, F0, F, env, s, o⟩ => ⟨H0, F0, F, env, s, rdI_of s o fun a ds F1 H1 b s1 v q k => by
    have step : ∀ {i : Nat} {xs ys : List D} {vx vy : List V} {d : D}, Reps G F1 vx xs → Reps G F1 vy ys → ((xs.zip ys).map fun p => D.tup [p.1, p.2])[i]? = some d → ∃ v w x y, vx[i]? = some v ∧ vy[i]? = some w ∧ d = .tup [x, y] ∧ Rep G F1 v x ∧ Rep G F1 w y := fun {i xs ys vx vy d} rx ry hd => by
      obtain ⟨hi, hd2⟩ := List.getElem?_eq_some_iff.mp hd
      have hi' : i < xs.length ∧ i < ys.length := by simp at hi; omega
      obtain ⟨v, e1, r1⟩ := rx.get i (List.getElem?_eq_getElem hi'.1)
      obtain ⟨w, e2, r2⟩ := ry.get i (List.getElem?_eq_getElem hi'.2)
      exact ⟨v, w, _, _, e1, e2, by rw [← hd2]; simp, r1, r2⟩
    unfold itZp at q
    split at q
    · rename_i xs ys
      cases q
      cases v with
      | cons v1 v2 =>
        cases v2 with
        | cons v2 v3 =>
        cases v3
        cases v1 with
        | lst hq r =>
        cases v2 with
        | lst hq' r' =>
          refine ⟨_, _, _, _, rfl, .inl ⟨by rw [hK]; exact same_sqL s1.fh hq, by rw [hK]; exact same_sqL s1.fh hq', k _ fun i F2 H2 f h => ?_⟩⟩
          rw [hK]
          have hq2 := same_sqL (f.trans h) hq
          have hq3 := same_sqL (f.trans h) hq'
          refine ⟨fun d hd => ?_, fun hl => ⟨_, _, hq2, hq3, by rw [r.length, r'.length]; simp at hl; omega⟩⟩
          obtain ⟨v, w, x, y, e1, e2, rfl, r1, r2⟩ := step r r' hd
          refine ⟨⟨_, _, v, w, hq2, hq3, e1, e2⟩, fun z H3 yy => ?_⟩
          obtain ⟨T, x1, x2, rfl, hT, rfl, y1, y2⟩ := yy
          have h1 := y1 _ hq2
          have h2 := y2 _ hq3
          rw [e1] at h1; cases h1
          rw [e2] at h2; cases h2
          have ex := Ext.new (o := .tup [v, w]) h hT
          exact ⟨_, ex, .tup upd_same (.cons (Rep.mono (f.trans ex.f) r1) (.cons (Rep.mono (f.trans ex.f) r2) .nil))⟩
    · rename_i xs ys
      cases q
      cases v with
      | cons v1 v2 =>
        cases v2 with
        | cons v2 v3 =>
        cases v3
        cases v1 with
        | tup hq r =>
        cases v2 with
        | tup hq' r' =>
          refine ⟨_, _, _, _, rfl, .inr ⟨.of (s1.fh _ _ hq), .of (s1.fh _ _ hq'), k _ fun i F2 H2 f h => ?_⟩⟩
          rw [hK]
          have hq2 : SqT G.K H2 _ _ := .of (h _ _ (f _ _ hq))
          have hq3 : SqT G.K H2 _ _ := .of (h _ _ (f _ _ hq'))
          refine ⟨fun d hd => ?_, fun hl => ⟨_, _, hq2, hq3, by rw [r.length, r'.length]; simp at hl; omega⟩⟩
          obtain ⟨v, w, x, y, e1, e2, rfl, r1, r2⟩ := step r r' hd
          refine ⟨⟨_, _, v, w, hq2, hq3, e1, e2⟩, fun z H3 yy => ?_⟩
          obtain ⟨T, x1, x2, rfl, hT, rfl, y1, y2⟩ := yy
          have h1 := y1 _ hq2
          have h2 := y2 _ hq3
          rw [e1] at h1; cases h1
          rw [e2] at h2; cases h2
          have ex := Ext.new (o := .tup [v, w]) h hT
          exact ⟨_, ex, .tup upd_same (.cons (Rep.mono (f.trans ex.f) r1) (.cons (Rep.mono (f.trans ex.f) r2) .nil))⟩
    · cases q⟩
end

/-! ### comprehensions -/
abbrev WZ : WX := fun _ _ _ _ => False
def mTrue : DEnv → R Bool := fun _ => .ok true
def wipeE (env : DEnv) : List Nat → DEnv
  | [] => env
  | v :: vs => (wipeE env vs).set v none
def lcGo (ft : D → DEnv → Option DEnv) (fc : DEnv → R Bool) (fe : DEnv → R D) (env : DEnv) : List D → R (List D)
  | [] => .ok []
  | d :: ds => match ft d env with
    | none => .bad
    | some e1 => match fc e1 with
      | .ok true => match fe e1 with
        | .ok y => (lcGo ft fc fe env ds).map (y :: ·)
        | _ => .bad
      | .ok false => lcGo ft fc fe env ds
      | _ => .bad
def notOw (env : DEnv) (i : Nat) : Bool := match env[i]? with
  | some (some (.ow _ _)) => false
  | _ => true
def mLc (own : List Nat) (fi : DEnv → R (List D)) (ft : D → DEnv → Option DEnv) (fc : DEnv → R Bool) (fe : DEnv → R D) : DEnv → R Own := fun env => (fi env).bind fun ds =>
  if ds.length ≤ 1000000 ∧ own.all (notOw env) = true then (lcGo ft fc fe (wipeE env own) ds).map Own.lst else .bad
section
variable {X : Cx} {G : Par} {W : WX} {k : Nat} {tg e : Expr} {es : List Expr} {pos : Pos} {fa fe : DEnv → R D} {fs : DEnv → R (List D)} {fi : DEnv → R (List D)} {fc : DEnv → R Bool} {ft : D → DEnv → Option DEnv}
theorem pts_yes {X : Cx} : PTs X [] (rdT G WZ mTrue) := ⟨fun pins s σ H Q I h => by
  obtain ⟨H0, F0, F, env, s1, o⟩ := h
  exact pts_nil.run pins s σ H Q I (o F H true s1 (.refl _) (.refl _) rfl)⟩
theorem Sit.blk (hS : Sit X W k) {s : Shared} {H : Hp} {scope : Scope} {cenv : Env} {fp : List Addr} : Sit (X.blk s H scope cenv fp) WZ k := ⟨hS.calm, hS.nd, takes0, hS.room, PassesOwn.never⟩
theorem wipeE_get (env : DEnv) : ∀ (vs : List Nat) (j : Nat), (wipeE env vs)[j]? = if j ∈ vs then (if j < env.length then some none else none) else env[j]?
  | [], j => by simp [wipeE]
  | v :: vs, j => by
    have hl : (wipeE env vs).length = env.length := by
      clear j
      induction vs with
      | nil => rfl
      | cons w ws ih => show ((wipeE env ws).set w none).length = _; rw [List.length_set, ih]
    show ((wipeE env vs).set v none)[j]? = _
    by_cases h : v = j
    · subst h
      by_cases h2 : v < env.length
      · rw [List.getElem?_set_self (by rw [hl]; exact h2)]; simp [h2]
      · rw [List.getElem?_eq_none (by rw [List.length_set, hl]; omega)]; simp [h2]
    · rw [List.getElem?_set_ne h, wipeE_get env vs j]
      have : ¬ j = v := fun z => h z.symm
      simp [this]
theorem SR.wipe {G : Par} {H0 F0 F H : Hp} {σ : L2.St} {env : DEnv} (s : SR G H0 F0 F H σ env) : ∀ vs : List Nat, SR G H0 F0 F H (L2.wipe σ vs) (wipeE env vs)
  | [] => s
  | v :: vs => (s.wipe vs).set (i := v) (x := none) (v := none) fun y e => nomatch e
/-- the target's slots alone are set -/
def Only (own : List Nat) (ft : D → DEnv → Option DEnv) : Prop := ∀ d env e1, ft d env = some e1 → ∀ j, j ∉ own → e1[j]? = env[j]?
theorem only_n {i : Nat} {own : List Nat} (h : i ∈ own) : Only own (tgN i) := fun d env e1 q j hj => by
  cases q
  exact List.getElem?_set_ne fun z => hj (by rw [← z]; exact h)
theorem only_fold : ∀ {is : List Nat} {own : List Nat} (_ : ∀ i ∈ is, i ∈ own) (ds : List D) (env : DEnv) (j : Nat), j ∉ own → ((is.zip ds).foldl (fun e p => e.set p.1 (some (.fr p.2))) env)[j]? = env[j]?
  | [], _, _, _, _, _, _ => by simp
  | i :: is, own, h, [], env, j, hj => by simp
  | i :: is, own, h, d :: ds, env, j, hj => by
    show ((is.zip ds).foldl (fun e p => e.set p.1 (some (.fr p.2))) (env.set i (some (.fr d))))[j]? = _
    rw [only_fold (fun a ha => h a (List.mem_cons_of_mem _ ha)) ds _ j hj]
    exact List.getElem?_set_ne fun z => hj (by rw [← z]; exact h i List.mem_cons_self)
theorem only_t {is own : List Nat} (h : ∀ i ∈ is, i ∈ own) : Only own (tgT is) := fun d env e1 q j hj => by
  unfold tgT at q
  split at q
  · split at q
    · cases q; exact only_fold h _ _ _ hj
    · cases q
  · cases q
/-- behind a turn of a comprehension -/
theorem SR.back {G : Par} {H0 F0 F1 F H1 H : Hp} {σ σ2 : L2.St} {env e1 : DEnv} {own : List Nat} {Dl : Addr} {acc : HO} (s : SR G H0 F0 F1 H1 σ env) (hD : H0 Dl = none) (hDF : F0 Dl = none) (hno : own.all (notOw env) = true)
    (s2 : SR G (upd H0 Dl acc) F0 F H σ2 e1) (f : Same F1 F) (h : Same H1 H) (ho : ∀ j, j ∉ own → e1[j]? = env[j]?) (hs : ∀ j, j ∉ own → σ2[j]? = σ[j]?) : SR G H0 F0 F H σ env := by
  have h01 : Same H0 (upd H0 Dl acc) := fun b u z => by rw [upd_ne (ne_of_none z hD)]; exact z
  refine ⟨s.h0.trans h, s2.f0, s2.fh, fun p n => s2.fn p ?_, s2.nt, s.len, fun i x hx => ?_, s.ds⟩
  · by_cases hp : p = Dl
    · subst hp; rw [upd_same]; exact nofun
    · rw [upd_ne hp]; exact n
  · obtain ⟨v, e, a⟩ := s.sl i x hx
    refine ⟨v, e, ?_⟩
    cases x with
    | fr d => exact Rep.mono f a
    | raw u => exact a
    | ow q c =>
      have hi : i ∉ own := fun z => by
        have := List.all_eq_true.mp hno i z
        unfold notOw at this
        rw [hx] at this
        cases this
      obtain ⟨p, rfl, iq, n0, nf, w⟩ := a
      obtain ⟨v2, e2, a2⟩ := s2.sl i (.ow q c) ((ho i hi).trans hx)
      rw [hs i hi, e] at e2
      cases e2
      obtain ⟨p', e', iq', n0', nf', w'⟩ := a2
      cases e'
      exact ⟨p, rfl, iq, n0, nf', w'⟩
theorem wipe_eq_get {σ σ' : L2.St} {vs : List Nat} (h : L2.wipe σ' vs = L2.wipe σ vs) {j : Nat} (hj : j ∉ vs) : σ'[j]? = σ[j]? := by
  have := congrArg (fun l => l[j]?) h
  simp only [wipe_get, if_neg hj] at this
  exact this
theorem rd_lc {own : List Nat} {Q : VK} (hft : Only own ft) {σ : L2.St} {H : Hp} (h : rdN G W (mLc own fi ft fc fe) σ H Q) : tLc (rdI G W fi) (rdG G own ft) (rdT G WZ fc) (rdE G WZ fe) own σ H Q := by
  obtain ⟨H0, F0, F, env, s, o⟩ := h
  refine ⟨H0, F0, F, env, s, ?_⟩
  unfold mLc at o
  cases q : fi env with
  | exc c n => rw [q] at o; exact o
  | bad => rw [q] at o; exact o
  | ok ds =>
    rw [q, R.bind_ok] at o
    intro F1 H1 J s1 f1 h1 wk Dl hDl
    by_cases hb : ds.length ≤ 1000000 ∧ own.all (notOw env) = true
    rotate_left
    · rw [if_neg hb] at o; exact o.elim
    rw [if_pos hb] at o
    obtain ⟨hlen, hno⟩ := hb
    cases q2 : lcGo ft fc fe (wipeE env own) ds with
    | exc c n => 
      exfalso
      clear o wk hlen q
      induction ds generalizing c n with
      | nil => cases q2
      | cons d ds ih =>
        unfold lcGo at q2
        split at q2
        · cases q2
        · split at q2
          · split at q2
            · cases q3 : lcGo ft fc fe (wipeE env own) ds with
              | ok a => rw [q3] at q2; cases q2
              | exc c2 n2 => exact ih _ _ q3
              | bad => rw [q3] at q2; cases q2
            · cases q2
          · exact ih _ _ q2
          · cases q2
    | bad => rw [q2] at o; exact o.elim
    | ok out =>
    rw [q2] at o
    have nH : H Dl = none := h1.free hDl
    have n0 : H0 Dl = none := s.h0none nH
    have nF : F1 Dl = none := s1.fh.free hDl
    have nF0 : F0 Dl = none := s1.f0.free nF
    have notD : ∀ (i : Nat) (qq : Option Addr) (c : Own), env[i]? = some (some (.ow qq c)) → σ[i]? ≠ some (some (.ref Dl)) := s1.notOwn hDl
    refine ⟨fun i m H' => m = ds.length - i ∧ ∃ (F' : Hp) (vs : List V) (acc rest : List D), SR G H0 F0 F' H' σ env ∧ Same F1 F' ∧ Same H1 H' ∧ H' Dl = some (.lst vs) ∧ F' Dl = none ∧ Reps G F' vs acc ∧ acc.length ≤ i ∧ lcGo ft fc fe (wipeE env own) (ds.drop i) = .ok rest ∧ acc ++ rest = out, ⟨ds.length, by simp, F1, [], [], out, ?_, .refl _, fun b u z => ?_, upd_same, nF, .nil, by simp, by simpa using q2, by simp⟩, ?_⟩
    · exact s1.heap (fun b u z => by rw [upd_ne (ne_of_none (s1.h0 _ _ z) hDl)]; exact s1.h0 _ _ z) (fun b u z => by rw [upd_ne (ne_of_none z nF)]; exact s1.fh _ _ z) fun i qq c p e1 e2 => upd_ne fun z => by subst z; exact notD i qq c e1 e2
    · rw [upd_ne (ne_of_none z hDl)]; exact z
    · rintro i m H' ⟨rfl, F', vs, acc, rest, s', f', h', hD', nF', ra, la, qr, eo⟩
      obtain ⟨w1, w2⟩ := wk i F' H' f' s'.fh
      cases q3 : ds[i]? with
      | none =>
        have hl : ds.length ≤ i := List.getElem?_eq_none_iff.mp q3
        rw [List.drop_eq_nil_of_le hl] at qr
        cases qr
        refine .inl ⟨w2 hl, ?_⟩
        rw [List.append_nil] at eo
        subst eo
        exact o F' H' Dl s' (f1.trans f') (h1.trans h') nH nF' ⟨vs, hD', ra⟩
      | some d =>
        obtain ⟨hlt, _⟩ := List.getElem?_eq_some_iff.mp q3
        obtain ⟨go, yl⟩ := w1 d q3
        rw [drop_cons q3] at qr
        unfold lcGo at qr
        refine .inr ⟨go, fun H' => ∃ (F' : Hp) (vs : List V) (acc rest : List D), SR G H0 F0 F' H' σ env ∧ Same F1 F' ∧ Same H1 H' ∧ H' Dl = some (.lst vs) ∧ F' Dl = none ∧ Reps G F' vs acc ∧ acc.length ≤ i + 1 ∧ lcGo ft fc fe (wipeE env own) (ds.drop (i + 1)) = .ok rest ∧ acc ++ rest = out, fun H2 h2 => ⟨ds.length - (i + 1), by omega, rfl, h2⟩, fun x H2 y => ?_⟩
        obtain ⟨F2, ex, r2⟩ := yl x H2 y
        cases q4 : ft d (wipeE env own) with
        | none => rw [q4] at qr; cases qr
        | some e1 =>
        rw [q4] at qr
        dsimp only at qr
        have sx := s'.ext ex
        have hD2 : H2 Dl = some (.lst vs) := ex.h _ _ hD'
        have nF2 : F2 Dl = none := (ex.n _ (by rw [hD']; exact nofun)).trans nF'
        -- the state within
        have sb : SR G (upd H0 Dl (.lst vs)) F0 F2 H2 σ env := by
          refine ⟨fun b u z => ?_, sx.f0, sx.fh, fun p n => ?_, sx.nt, sx.len, fun j x hx => ?_, sx.ds⟩
          · by_cases hb : b = Dl
            · subst hb; rw [upd_same] at z; cases z; exact hD2
            · rw [upd_ne hb] at z; exact sx.h0 _ _ z
          · by_cases hb : p = Dl
            · subst hb; rw [nF2, nF0]
            · rw [upd_ne hb] at n; exact sx.fn p n
          · obtain ⟨v, e, a⟩ := sx.sl j x hx
            refine ⟨v, e, ?_⟩
            cases x with
            | fr d => exact a
            | raw u => exact a
            | ow qq c =>
              obtain ⟨p, rfl, iq, m0, mf, w⟩ := a
              exact ⟨p, rfl, iq, by rw [upd_ne fun z => by subst z; exact notD j qq c hx e]; exact m0, mf, w⟩
        refine ⟨_, F0, F2, _, d, sb.wipe own, r2, ?_⟩
        rw [q4]
        intro σ3 s3 hw
        have hw' := hw own fun _ hi => hi
        have wi : L2.wipe (L2.wipe σ own) own = L2.wipe σ own := by
          apply List.ext_getElem?
          intro j
          rw [wipe_get]
          split
          · rename_i hj; rw [wipe_get, if_pos hj, wipe_length]
          · rfl
        rw [wi] at hw'
        refine ⟨hw', _, F0, F2, e1, s3, ?_⟩
        have only : ∀ j, j ∉ own → e1[j]? = env[j]? := fun j hj => by rw [hft _ _ _ q4 j hj, wipeE_get, if_neg hj]
        have onlyσ : ∀ j, j ∉ own → σ3[j]? = σ[j]? := fun j hj => wipe_eq_get hw' hj
        cases q5 : fc e1 with
        | exc c n => rw [q5] at qr; cases qr
        | bad => rw [q5] at qr; cases qr
        | ok b =>
        rw [q5] at qr
        intro F3 H3 b' s4 f3 h3 eb
        subst eb
        cases b' with
        | false =>
          rw [if_neg Bool.false_ne_true]
          dsimp only at qr
          have s5 := SR.back sx n0 nF0 hno s4 f3 h3 only onlyσ
          refine ⟨F3, vs, acc, rest, s5, (f'.trans ex.f).trans f3, (h'.trans ex.h).trans h3, h3 _ _ hD2, ?_, ra.mono (ex.f.trans f3), by omega, qr, eo⟩
          exact (s4.fn _ (by rw [upd_same]; exact nofun)).trans nF0
        | true =>
          rw [if_pos rfl]
          dsimp only at qr
          refine ⟨_, F0, F3, e1, s4, ?_⟩
          cases q6 : fe e1 with
          | exc c n => rw [q6] at qr; cases qr
          | bad => rw [q6] at qr; cases qr
          | ok y =>
            rw [q6] at qr
            dsimp only at qr
            intro F5 H5 yv s6 f5 h5 ry
            cases q7 : lcGo ft fc fe (wipeE env own) (ds.drop (i + 1)) with
            | exc c n => rw [q7] at qr; cases qr
            | bad => rw [q7] at qr; cases qr
            | ok rest' =>
              rw [q7] at qr
              cases qr
              have s7 := SR.back sx n0 nF0 hno s6 (f3.trans f5) (h3.trans h5) only onlyσ
              have hD5 : H5 Dl = some (.lst vs) := h5 _ _ (h3 _ _ hD2)
              have nF5 : F5 Dl = none := (s6.fn _ (by rw [upd_same]; exact nofun)).trans nF0
              have ra5 := ra.mono ((ex.f.trans f3).trans f5)
              refine ⟨vs, hD5, lt_line (by rw [ra.length]; omega), F5, vs ++ [yv], acc ++ [y], rest', ?_, ((f'.trans ex.f).trans f3).trans f5, fun b u z => ?_, upd_same, nF5, ra5.append (.cons ry .nil), by simp; omega, rfl, by simpa using eo⟩
              · exact s7.heap (fun b u z => by rw [upd_ne (ne_of_none z n0)]; exact s7.h0 _ _ z) (fun b u z => by rw [upd_ne (ne_of_none z nF5)]; exact s7.fh _ _ z) fun j qq c p e1 e2 => upd_ne fun z => by subst z; exact notD j qq c e1 e2
              · rw [upd_ne (ne_of_none z hDl)]; exact h5 _ _ (h3 _ _ (ex.h _ _ (h' _ _ z)))
/-- [elt for tg in iter if ..] -/
theorem n_lc {elt iter : Expr} {ifs : List Expr} {scope : Scope} {own : List (Str × Nat)} (hS : Sit X W k) (hi : PI X tg iter (rdI G W fi)) (ok : BlkOk X.N X.env.scope scope own)
    (hft : Only (own.map (·.2)) ft)
    (hg : ∀ (s : Shared) (H : Hp) (C : Addr) (cl : List (Str × Addr)) (fp : List Addr), Sit (X.blk s H scope (compEnvC scope cl C X.env) fp) WZ k → PG (X.blk s H scope (compEnvC scope cl C X.env) fp) tg (rdG G (own.map (·.2)) ft))
    (ht : ∀ (s : Shared) (H : Hp) (C : Addr) (cl : List (Str × Addr)) (fp : List Addr), Sit (X.blk s H scope (compEnvC scope cl C X.env) fp) WZ k → PTs (X.blk s H scope (compEnvC scope cl C X.env) fp) ifs (rdT G WZ fc))
    (he : ∀ (s : Shared) (H : Hp) (C : Addr) (cl : List (Str × Addr)) (fp : List Addr), Sit (X.blk s H scope (compEnvC scope cl C X.env) fp) WZ k → PE (X.blk s H scope (compEnvC scope cl C X.env) fp) elt (rdE G WZ fe))
    (hs : ∀ x, foldedSetIterable iter X.env x = pure x := by intro _; rfl) : PE X (.ListComp elt [⟨tg, iter, ifs, 0⟩] scope pos) (rdN G W (mLc (own.map (·.2)) fi ft fc fe)) :=
  pe_mono (pe_lc hS.calm hS.nd hi ok (fun s H C cl fp => hg s H C cl fp hS.blk) (fun s H C cl fp => ht s H C cl fp hS.blk) (fun s H C cl fp => he s H C cl fp hS.blk) hs) fun σ H Q h => rd_lc hft h
theorem y_setLc {i : Nat} {y : Str} {py spos : Pos} {elt iter : Expr} {ifs : List Expr} {scope : Scope} {own : List (Str × Nat)} (hS : Sit X W k) (hi : PI X tg iter (rdI G W fi)) (ok : BlkOk X.N X.env.scope scope own)
    (hft : Only (own.map (·.2)) ft)
    (hg : ∀ (s : Shared) (H : Hp) (C : Addr) (cl : List (Str × Addr)) (fp : List Addr), Sit (X.blk s H scope (compEnvC scope cl C X.env) fp) WZ k → PG (X.blk s H scope (compEnvC scope cl C X.env) fp) tg (rdG G (own.map (·.2)) ft))
    (ht : ∀ (s : Shared) (H : Hp) (C : Addr) (cl : List (Str × Addr)) (fp : List Addr), Sit (X.blk s H scope (compEnvC scope cl C X.env) fp) WZ k → PTs (X.blk s H scope (compEnvC scope cl C X.env) fp) ifs (rdT G WZ fc))
    (he : ∀ (s : Shared) (H : Hp) (C : Addr) (cl : List (Str × Addr)) (fp : List Addr), Sit (X.blk s H scope (compEnvC scope cl C X.env) fp) WZ k → PE (X.blk s H scope (compEnvC scope cl C X.env) fp) elt (rdE G WZ fe))
    (hy : X.N[i]? = some y := by rfl) (hyl : X.env.scope.names.lookup y = some .local := by rfl)
    (hsw : swapsWith (.ListComp elt [⟨tg, iter, ifs, 0⟩] scope pos) (some (.Name y py)) spos.line X.env = pure true := by exact sw_true rfl rfl rfl rfl)
    (hs : ∀ x, foldedSetIterable iter X.env x = pure x := by intro _; rfl) : PS X (.Assign [.Name y py] (.ListComp elt [⟨tg, iter, ifs, 0⟩] scope pos) spos) (rdS G W (sSetN i (mLc (own.map (·.2)) fi ft fc fe))) :=
  ps_mono (ps_setLc (i := i) hS.calm hS.nd hy hyl hsw hi ok (fun s H C cl fp => hg s H C cl fp hS.blk) (fun s H C cl fp => ht s H C cl fp hS.blk) (fun s H C cl fp => he s H C cl fp hS.blk) hs) fun En σ H ⟨H0, F0, F, env, s, o⟩ => rd_lc hft (rdN_out s o fun c F1 H1 p s1 f1 h1 n1 n2 w o1 =>
    o1 F1 H1 _ (s1.setO (fun _ z => nomatch z) (s.h0.free n1) n2 w fun j qj cj hj e1 e2 => s.notOwn n1 j qj cj e1 e2))
end
end S

set_option Elab.async false
set_option linter.all false
set_option maxRecDepth 100000
set_option maxHeartbeats 4000000
namespace S
open PySem PySem.Spec PyProof.Rows L2

section
variable {X : Cx} {G : Par} {W : WX} {k : Nat} {e a b c : Expr} {lo hi : Option Expr} {es : List Expr} {pos : Pos} {fa fb fc fe : DEnv → R D} {fs : DEnv → R (List D)} {fn : DEnv → R Own}
/-! ### sorted(xs) of data that are alike -/
def leD (a b : D) : Bool := PySem.W.dataLe false (fun d : D => py d) a b
theorem each_vals {xs : List V} {us : List Value} (h : Vals xs us) : ∀ {ds : List D}, xs.length = ds.length → PySem.W.EachIs (fun (u : Value) (p : V × D) => L2.RelV p.1 u) us (xs.zip ds) := by
  induction h with
  | nil => intro ds hl; cases ds with
    | nil => exact .nil
    | cons _ _ => cases hl
  | cons r _ ih => intro ds hl; cases ds with
    | nil => cases hl
    | cons d ds => exact .cons r (ih (Nat.succ.inj hl))
theorem vals_each : ∀ {us : List Value} {ps : List (V × D)}, PySem.W.EachIs (fun (u : Value) (p : V × D) => L2.RelV p.1 u) us ps → Vals (ps.map (·.1)) us
  | _, _, .nil => .nil
  | _, _, .cons h t => .cons h (vals_each t)
def rSortA (K : PySem.W.Frag) : List V → Hp → VK → Prop := fun vs H Q => ∃ (p : Addr) (bs : List (V × D)), vs = [V.ref p] ∧ SqL K H p (bs.map (·.1)) ∧ (∀ b ∈ bs, Dp K H b.1 (py b.2)) ∧ PySem.W.AllAlike (bs.map fun b => py b.2) ∧ PySem.W.Sortable (bs.map fun b => py b.2) ∧
  (∀ b ∈ bs, dep b.2 ≤ 60) ∧ ∀ q, H q = none → Q (.ref q) (upd H q (.lst ((bs.mergeSort fun x y => leD x.2 y.2).map (·.1))))
theorem cr_sortA (hr : Room k X.A) : CallR X (.builtin "sorted") (rSortA X.K) := by
  intro pins s σ H vs us Q I r h
  obtain ⟨p, bs, rfl, hs, hd, hal, hso, hdp, q⟩ := h
  obtain ⟨its, rv, hl, hz⟩ := I.list hs
  rw [Vals.ref1 r]
  have e0 : PySem.W.EachIs (fun (u : Value) (b : V × D) => L2.RelV b.1 u) its bs := by
    have := each_vals rv (ds := bs.map (·.2)) (by simp)
    have ez : (bs.map (·.1)).zip (bs.map (·.2)) = bs := by
      clear this hs hd hal hso hdp rv hz q
      induction bs with
      | nil => rfl
      | cons b bs ih => simp [ih]
    rw [ez] at this; exact this
  have er : PySem.W.EachIs (fun (u : Value) (b : V × D) => ∃ as, Reads s.heap u (py b.2) as) its bs := by
    have go : ∀ {us : List Value} {cs : List (V × D)}, (∀ b ∈ cs, b ∈ bs) → PySem.W.EachIs (fun (u : Value) (b : V × D) => L2.RelV b.1 u) us cs → PySem.W.EachIs (fun (u : Value) (b : V × D) => ∃ as, Reads s.heap u (py b.2) as) us cs := by
      intro us cs hm h
      induction h with
      | nil => exact .nil
      | cons r _ ih => exact .cons (Dp.reads I _ _ _ (hd _ (hm _ List.mem_cons_self)) r) (ih fun b hb => hm b (List.mem_cons_of_mem _ hb))
    exact go (fun _ h => h) e0
  refine PySem.W.sorted_data (enc := fun b : V × D => py b.2) hl.isList e0 er hal hso (by rw [List.length_map] at hz; exact hz) (fun b hb => ?_) fun out hlen eo => ?_
  · have := hr.units
    have := hdp b hb
    rw [dep_py]
    omega
  · obtain ⟨ep, he'⟩ := PyProof.Rows.sortedAll_at s.heap its out.toArray
    have hlen' : ((bs.mergeSort fun x y => leD x.2 y.2).map (·.1)).length ≤ sizeLine := by
      rw [List.length_map, List.length_mergeSort]
      rw [List.length_map] at hz
      exact hz
    exact ⟨.ref _, upd H (s.heap.objs.size + 1) (.lst _), I.laid (t' := s.toks) (fun _ _ => PyProof.Rows.sortedAll_old) (Nat.le_succ _) ⟨hlen', out, ep, vals_each eo, he'⟩, rfl, q _ (I.hok.fresh (Nat.le_succ _))⟩
def likeAll (ds : List D) : Bool := ds.all fun x => ds.all fun y => PySem.W.alike (py x) (py y)
def isTup1 : D → Bool
  | .tup (_ :: _) => true
  | _ => false
def isAtom : D → Bool
  | .int _ => true
  | .str _ => true
  | .bl _ => true
  | .lst _ => true
  | _ => false
def sortOk (ds : List D) : Bool := okDs ds && likeAll ds && (ds.all isTup1 || ds.all isAtom) && ds.all (fun d => decide (dep d ≤ 60))
def gSorted : List D → Option Own
  | [.lst ds] => if sortOk ds then some (.lst (ds.mergeSort leD)) else none
  | _ => none
theorem okDs_mem : ∀ {ds : List D}, okDs ds = true → ∀ d ∈ ds, okD d = true
  | [], _, d, h => by cases h
  | e :: es, h, d, hd => by
    have h' : (okD e && okDs es) = true := h
    rw [Bool.and_eq_true] at h'
    cases hd with
    | head => exact h'.1
    | tail _ hd => exact okDs_mem h'.2 d hd
theorem Reps.zip {F : Hp} : ∀ {vs : List V} {ds : List D}, Reps G F vs ds → (∀ p ∈ vs.zip ds, Rep G F p.1 p.2) ∧ (vs.zip ds).map (·.1) = vs ∧ (vs.zip ds).map (·.2) = ds
  | _, _, .nil => ⟨(fun _ h => nomatch h), rfl, rfl⟩
  | _, _, .cons h r => ⟨fun p hp => by
      cases hp with
      | head => exact h
      | tail _ hp => exact (Reps.zip r).1 p hp, by simp [(Reps.zip r).2.1], by simp [(Reps.zip r).2.2]⟩
theorem Reps.of_all {F : Hp} : ∀ {ps : List (V × D)}, (∀ p ∈ ps, Rep G F p.1 p.2) → Reps G F (ps.map (·.1)) (ps.map (·.2))
  | [], _ => .nil
  | p :: ps, h => .cons (h p List.mem_cons_self) (Reps.of_all fun q hq => h q (List.mem_cons_of_mem _ hq))
theorem d_sorted (hK : X.K = G.K) : ApN G (rSortA X.K) gSorted := fun F H xs as c Q e hb q k => by
  unfold gSorted at q
  split at q
  · rename_i ds
    split at q
    · rename_i hok
      cases q
      unfold sortOk at hok
      simp only [Bool.and_eq_true, Bool.or_eq_true, List.all_eq_true, decide_eq_true_eq] at hok
      obtain ⟨⟨⟨h1, h2⟩, h3⟩, h4⟩ := hok
      unfold likeAll at h2
      simp only [List.all_eq_true] at h2
      cases hb with
      | cons b1 b2 =>
      cases b2
      obtain ⟨p, vs, rfl, hq, r⟩ := b1
      obtain ⟨z1, z2, z3⟩ := r.zip
      rw [hK]
      have md : ∀ b ∈ vs.zip ds, b.2 ∈ ds := fun b hb => by rw [← z3]; exact List.mem_map.mpr ⟨b, hb, rfl⟩
      refine ⟨p, vs.zip ds, rfl, by rw [z2]; exact hq, fun b hb => (z1 b hb).dp e (okDs_mem h1 _ (md b hb)), fun d hd d' hd' => ?_, ?_, fun b hb => h4 _ (md b hb), fun t ht => ?_⟩
      · obtain ⟨b, hb, rfl⟩ := List.mem_map.mp hd
        obtain ⟨b', hb', rfl⟩ := List.mem_map.mp hd'
        exact h2 _ (md b hb) _ (md b' hb')
      · rcases h3 with h | h
        · refine .inl fun d hd => ?_
          obtain ⟨b, hb, rfl⟩ := List.mem_map.mp hd
          have := h _ (md b hb)
          unfold isTup1 at this
          split at this
          · rename_i x xs eq; rw [eq]; exact ⟨py x, pys xs, rfl⟩
          · cases this
        · refine .inr fun d hd => ?_
          obtain ⟨b, hb, rfl⟩ := List.mem_map.mp hd
          have := h _ (md b hb)
          unfold isAtom at this
          split at this
          all_goals first | cases this | skip
          all_goals (rename_i eq; rw [eq]; exact ⟨fun z => by simp [py] at z, fun xs z => by simp [py] at z⟩)
      · have hl : ((vs.zip ds).mergeSort fun x y => leD x.2 y.2).map (·.2) = ds.mergeSort leD := by
          rw [List.map_mergeSort (r := fun x y => leD x.2 y.2) (s := leD) (f := fun p : V × D => p.2) (fun _ _ _ _ => rfl), z3]
        refine k _ t (same_new ht) ht ⟨_, upd_same, ?_⟩
        rw [← hl]
        exact Reps.of_all fun p hp => z1 p (List.mem_mergeSort.mp hp)
    · cases q
  · cases q

/-! ### isinstance(x, a built-in type) -/
theorem e_isiTy {T : String} {x y : Str} {p p2 : Pos} {bb : D → Option Bool} (he : PE X e (rdB G W fa)) (hg : Gl X x := by rfl) (hm : X.mg x = none) (hx : x = "isinstance") (hgy : Gl X y := by rfl) (hmy : X.mg y = none) (hv : bootBuiltins y = some (.type T)) (hyn : y ≠ "__name__" := by decide) (hyd : (y == ("__debug__" : Str)) = false := by decide)
    (hb : ∀ (F H : Hp) (v : V) (d : D) (r : Bool), Same F H → Bor G F H v d → bb d = some r → ∃ t, TyX G.K H v t ∧ PySem.W.kitOne G.K t (.type T) = some r) (hK : X.K = G.K := by rfl)
    (hs : starEach [e, .Name y p2] X.env = (false, eval e X.env) :: starEach [.Name y p2] X.env := by rfl) (hs2 : starEach [.Name y p2] X.env = (false, eval (.Name y p2) X.env) :: starEach [] X.env := by rfl)
    (hpl : (backTo pos (starEach [.Name y p2] X.env)).any (·.1) = false := by rfl) : PE X (.Call (.Name x p) [e, .Name y p2] [] pos) (rdE G W (mUn (fun d => (bb d).map D.bl) fa)) := by
  subst hx
  have pt : PE X (.Name y p2) (tC (V.ty T)) := ⟨fun pins s σ H Q I q => ld_blt I hgy hmy hv ⟨V.ty T, H, I, rfl, q⟩ hyn hyd⟩
  refine pe_mono (pe_callB call_isi hg hm PyProof.Rows.boot_isinstance (pa_cons he (pa_cons pt pa_nil hs2) hs) (by decide) (by decide) hs hpl) fun σ H Q ⟨H0, F0, F, env, s, o⟩ => ⟨H0, F0, F, env, s, o.step fun d F1 H1 v s1 f1 h1 r1 o1 => ?_⟩
  dsimp only at o1
  cases q : bb d with
  | none => rw [q] at o1; exact o1.elim
  | some r =>
    rw [q] at o1
    obtain ⟨t, ty, kt⟩ := hb F1 H1 v d r s1.fh r1 q
    exact ⟨v, V.ty T, t, .type T, r, rfl, .ty T, by rw [hK]; exact ty, by rw [hK]; exact kt, o1 F1 H1 _ s1 (.refl _) (.refl _) (.bl r)⟩
def tyB (T : String) : D → Option Bool
  | .non => kitB "NoneType" T
  | .bl _ => kitB "bool" T
  | .int _ => kitB "int" T
  | .str _ => kitB "str" T
  | _ => none
theorem isi_ok {T : String} : ∀ (F H : Hp) (v : V) (d : D) (r : Bool), Same F H → Bor G F H v d → tyB T d = some r → ∃ t, TyX G.K H v t ∧ PySem.W.kitOne G.K t (.type T) = some r := by
  intro F H v d r e b q
  cases d with
  | non => cases b; exact ⟨_, .base .non, kit_ty q⟩
  | bl x => cases b; exact ⟨_, .base (.bl x), kit_ty q⟩
  | int x => cases b; exact ⟨_, .base (.int x), kit_ty q⟩
  | str x => cases b; exact ⟨_, .base (.str x), kit_ty q⟩
  | _ => cases q

/-! ### list + list -/
def rCatL (K : PySem.W.Frag) : R2 := fun x y H Q => ∃ (l b : Addr) (xs zs : List V), x = .ref l ∧ y = .ref b ∧ SqL K H l xs ∧ SqL K H b zs ∧ xs.length + zs.length ≤ sizeLine ∧ ∀ p, H p = none → Q (.ref p) (upd H p (.lst (xs ++ zs)))
theorem op_catL : OpR X (binaryOp .Add) (rCatL X.K) := by
  intro pins s σ H x y v u Q I rx ry h
  obtain ⟨l, b, xs, zs, rfl, rfl, hx, hy, hz, q⟩ := h
  cases rx
  cases ry
  obtain ⟨its, r, ⟨⟨c1, d1, dt1, sl1⟩, n, e, k1, k2, k3⟩, z⟩ := I.list hx
  obtain ⟨its2, r2, ⟨⟨c2, d2, dt2, sl2⟩, n2, e2, k4, k5, k6⟩, z2⟩ := I.list hy
  simp only at k1 k3 k4 k6
  subst k1 k3 k4 k6
  have l1 := r.length
  have l2 := r2.length
  refine concat_meets ⟨_, e, rfl⟩ ⟨_, e2, rfl⟩ PySem.noFill_list_add PySem.seq_list_add PySem.F.slot_list_add PySem.F.entry_list_add (PySem.F.args_list_add_2 _ _) (PyProof.Rows.list_addW l b its.toArray its2.toArray n n2 _ _ _ _ (by simp; omega)) ⟨e, e2, ?_⟩
  have ea : its.toArray ++ its2.toArray = (its ++ its2).toArray := by simp
  rw [ea]
  exact ⟨.ref _, _, I.lnew (t' := s.toks) (r.append r2) (by rw [List.length_append]; omega), rfl, q _ I.fresh⟩
def gCat : D → D → Option Own
  | .lst xs, .lst ys => if xs.length + ys.length ≤ 1000000 then some (.lst (xs ++ ys)) else none
  | _, _ => none
theorem d_cat (hK : X.K = G.K) : OpN G (rCatL X.K) gCat := fun F H x y a b c Q e bx yb q k => by
  unfold gCat at q
  split at q
  · split at q
    · rename_i hl
      cases q
      obtain ⟨p, vs, rfl, h1, r1⟩ := bx
      obtain ⟨p2, vs2, rfl, h2, r2⟩ := yb
      rw [hK]
      refine ⟨p, p2, vs, vs2, rfl, rfl, h1, h2, le_line (by rw [r1.length, r2.length]; exact hl), fun t ht => k _ t (same_new ht) ht ⟨_, upd_same, r1.append r2⟩⟩
    · cases q
  · cases q

/-! ### xs.extend(..): a new list, a tuple -/
theorem o_extT : OwnR1 G (vE G) (fun x vs H Q => ∃ (l b : Addr) (xs zs : List V), x = .ref l ∧ vs = [.ref b] ∧ H l = some (.lst xs) ∧ H b = some (.tup zs) ∧ xs.length + zs.length ≤ sizeLine ∧ Q .non (upd H l (.lst (xs ++ zs)))) (fun c d => match c, d with
    | .lst ds, .tup es => if ds.length + es.length ≤ 1000000 then some (.lst (ds ++ es)) else none
    | _, _ => none) := fun F H p c v d c' Q w e r q k => by
  cases c with
  | lst ds =>
    cases d with
    | tup es =>
      obtain ⟨vs, hp, rs⟩ := w
      cases r with
      | tup hq r2 =>
      dsimp only at q
      split at q
      · rename_i hl
        cases q
        exact ⟨p, _, vs, _, rfl, rfl, hp, e _ _ hq, le_line (by rw [rs.length, r2.length]; exact hl), k _ ⟨_, upd_same, rs.append r2⟩⟩
      · cases q
    | _ => cases q
  | _ => cases q
theorem ext_meets (l b : Addr) (T : String) (hT : T = "list" ∨ T = "tuple") (xs ys : Array Value) (n m : Nat) (d2 : Option Addr) (w2 : Array (Option Value)) (hlong : ¬(!xs.isEmpty && Builtin.List.listTooLong (xs.size + ys.size)) = true) (hs1 : xs.size ≤ sizeLine) (hs2 : xs.size + ys.size ≤ sizeLine + 1) :
    Meets (Builtin.«list.extend» ⟨[.ref l, .ref b], []⟩) fun _ R s =>
      s.heap.get? l = some { cls := .type "list", dict := none, data := .seq xs n, slots := #[] } ∧ s.heap.get? b = some { cls := .type T, dict := d2, data := .seq ys m, slots := w2 } ∧
      R (.ok (.ret Value.none)) { s with heap := s.heap.update l (Obj.mapSeq fun x => x ++ ys), toks := s.toks } :=
  .of_wp fun prog w A R s h => by
    obtain ⟨hp, g, d, tk, os⟩ := s
    obtain ⟨hl, hb, h⟩ := h
    have f2 := AutoSeq1.sub_tuple_tuple
    have f3 := AutoSeq1.sub_list_list
    have f4 := AutoSeq1.sub_tuple_list
    have f5 := AutoSeq1.sub_list_tuple
    have f1 := AutoSeq1.idx_int
    have hz' : (xs ++ ys).size ≤ sizeLine + 1 := by
      rw [Array.size_append]
      exact hs2
    rcases hT with rfl | rfl
    · wp_walk using (wpAny_updateSeq hl rfl (hz := hs1) (_hz' := hz')), wpAny_loadPart' hl, wpAny_loadPart' hb
      exact ⟨_, rfl, h⟩
    · wp_walk using (wpAny_updateSeq hl rfl (hz := hs1) (_hz' := hz')), wpAny_loadPart' hl, wpAny_loadPart' hb
      exact ⟨_, rfl, h⟩
theorem mt_extT : MtR X "list.extend" (fun x vs H Q => ∃ (l b : Addr) (xs zs : List V), x = .ref l ∧ vs = [.ref b] ∧ H l = some (.lst xs) ∧ (H b = some (.tup zs) ∨ (SqL X.K H b zs)) ∧ xs.length + zs.length ≤ sizeLine ∧ Q .non (upd H l (.lst (xs ++ zs)))) := by
  intro pins s σ H x vs v us Q I rx rv h
  obtain ⟨l, b, xs, zs, rfl, rfl, hH, hB, hz, q⟩ := h
  cases rx
  obtain ⟨u, rfl, ru⟩ := rv.one
  cases ru
  obtain ⟨z, its, n, r, hl, e⟩ := I.lstM hH
  have go : ∀ (T : String) (_ : T = "list" ∨ T = "tuple") (its2 : List Value) (d2 : Option Addr) (w2 : Array (Option Value)) (m : Nat), Vals zs its2 → s.heap.get? b = some { cls := .type T, dict := d2, data := .seq its2.toArray m, slots := w2 } →
      wpAny (model X.prog X.w) X.A (call (.builtin "list.extend") [.ref l, .ref b]) (EP X pins σ Q) X.xe s := fun T hT its2 d2 w2 m r2 e2 => by
    have l1 := r.length
    have l2 := r2.length
    have hsz : its.toArray.size + its2.toArray.size ≤ sizeLine := by rw [List.size_toArray, List.size_toArray]; omega
    have hlong : ¬ (!its.toArray.isEmpty && Builtin.List.listTooLong (its.toArray.size + its2.toArray.size)) = true := by
      rw [notLongL hsz, Bool.and_false]
      exact Bool.false_ne_true
    refine call_meets PySem.F.slot_list_extend ⟨_, e, rfl⟩ PySem.F.entry_list_extend (PySem.F.args_list_extend_2 _ _) (ext_meets l b T hT its.toArray its2.toArray n m d2 w2 hlong (by omega) (by omega)) ⟨e, e2, ?_⟩
    refine ⟨.non, _, I.lset (its' := its ++ its2) hH e (by simp) (r.append r2) ?_, rfl, q⟩
    rw [List.length_append]
    omega
  rcases hB with hB | hB
  · obtain ⟨z2, its2, r2, ⟨c2, d2, dt2, sl2⟩, e2, k1, n2, k2⟩ := (show ObjOk X.prog X.w H s.heap b (.tup zs) from I.hok b _ hB)
    simp only at k1 k2
    subst k1 k2
    exact go "tuple" (.inr rfl) its2 d2 sl2 n2 r2 e2
  · obtain ⟨its2, r2, ⟨⟨c2, d2, dt2, sl2⟩, n2, e2, k4, k5, k6⟩, z2⟩ := I.list hB
    simp only at k4 k6
    subst k4 k6
    exact go "list" (.inl rfl) its2 d2 sl2 n2 r2 e2
def oExtA : Own → D → Option Own
  | .lst ds, .tup es => if ds.length + es.length ≤ 1000000 then some (.lst (ds ++ es)) else none
  | .lst ds, .lst es => if ds.length + es.length ≤ 1000000 then some (.lst (ds ++ es)) else none
  | _, _ => none
theorem o_ext (hK : X.K = G.K) : OwnR1 G (vB G) (fun x vs H Q => ∃ (l b : Addr) (xs zs : List V), x = .ref l ∧ vs = [.ref b] ∧ H l = some (.lst xs) ∧ (H b = some (.tup zs) ∨ (SqL X.K H b zs)) ∧ xs.length + zs.length ≤ sizeLine ∧ Q .non (upd H l (.lst (xs ++ zs)))) oExtA := fun F H p c v d c' Q w e r q k => by
  unfold oExtA at q
  split at q
  · rename_i ds es
    obtain ⟨vs, hp, rs⟩ := w
    cases r with
    | tup hq r2 =>
    split at q
    · rename_i hl
      cases q
      exact ⟨p, _, vs, _, rfl, rfl, hp, .inl (e _ _ hq), le_line (by rw [rs.length, r2.length]; exact hl), k _ ⟨_, upd_same, rs.append r2⟩⟩
    · cases q
  · rename_i ds es
    obtain ⟨vs, hp, rs⟩ := w
    obtain ⟨a2, vs2, rfl, hq, r2⟩ := r
    split at q
    · rename_i hl
      cases q
      exact ⟨p, _, vs, _, rfl, rfl, hp, .inr (by rw [hK]; exact hq), le_line (by rw [rs.length, r2.length]; exact hl), k _ ⟨_, upd_same, rs.append r2⟩⟩
    · cases q
  · cases q

/-! ### xs[lo::st], a list's slice with a step -/
def pickG {α : Type} (xs : List α) (lo hi st : Option Int) : List α := (sliceRange (sliceBounds lo hi st xs.length).1 (sliceBounds lo hi st xs.length).2.1 (sliceBounds lo hi st xs.length).2.2).filterMap (xs[·]?)
theorem pick_vals {xs : List V} {us : List Value} (r : Vals xs us) (js : List Nat) : Vals (js.filterMap (xs[·]?)) (js.filterMap (us[·]?)) := by
  induction js with
  | nil => exact .nil
  | cons j js ih =>
    rw [List.filterMap_cons, List.filterMap_cons]
    cases q : xs[j]? with
    | some x =>
      obtain ⟨u, hu, ru⟩ := r.get q
      rw [hu]
      exact .cons ru ih
    | none =>
      have : us[j]? = none := List.getElem?_eq_none (by have := List.getElem?_eq_none_iff.mp q; rw [← r.length]; exact this)
      rw [this]
      exact ih
theorem pick_reps {F : Hp} {xs : List V} {ds : List D} (r : Reps G F xs ds) (js : List Nat) : Reps G F (js.filterMap (xs[·]?)) (js.filterMap (ds[·]?)) := by
  induction js with
  | nil => exact .nil
  | cons j js ih =>
    rw [List.filterMap_cons, List.filterMap_cons]
    cases q : ds[j]? with
    | some x =>
      obtain ⟨u, hu, ru⟩ := r.get j q
      rw [hu]
      exact .cons ru ih
    | none =>
      have : xs[j]? = none := List.getElem?_eq_none (by have := List.getElem?_eq_none_iff.mp q; rw [r.length]; exact this)
      rw [this]
      exact ih
theorem slicePick_eq (us : List Value) (lo hi st : Option Int) : (slicePick us.toArray lo hi st).toList = pickG us lo hi st := by
  unfold slicePick pickG
  simp
def rSl3 (K : PySem.W.Frag) (x : V) (lo hi st : Option Int) (H : Hp) (Q : VK) : Prop := ∃ (p : Addr) (xs : List V), x = .ref p ∧ SqL K H p xs ∧ st ≠ some 0 ∧ ∀ q, H q = none → Q (.ref q) (upd H q (.lst (pickG xs lo hi st)))
def tSl3 (K : PySem.W.Frag) (te : TE) (tl th ts : TO) : TE := fun σ H Q => te σ H fun x H1 => tl σ H1 fun l H2 => th σ H2 fun u H3 => ts σ H3 fun c H4 => rSl3 K x l u c H4 Q
theorem pe_slice3 {te : TE} {tl th ts : TO} {st : Expr} {p2 : Pos} (he : PE X e te) (hl : PO X lo tl) (hu : PO X hi th) (hst : PO X (some st) ts) : PE X (.Subscript e (.Slice lo hi (some st) p2) pos) (tSl3 X.K te tl th ts) := by
  refine ⟨fun pins s σ H Q I h => ?_⟩
  refine Subscript_ (thn (he.run pins s σ H _ I h) fun v s1 ⟨x, H1, I1, r1, q1⟩ => ?_)
  refine wpAny_Slice (thn (hl.run pins s1 σ H1 _ I1 q1) fun vl s2 ⟨l, H2, I2, pl, q2⟩ => thn (hu.run pins s2 σ H2 _ I2 q2) fun vu s3 ⟨u, H3, I3, pu, q3⟩ => thn (hst.run pins s3 σ H3 _ I3 q3) fun vs s4 ⟨c, H4, I4, ps, q4⟩ => ?_)
  obtain ⟨a, xs, rfl, hx, h0, q⟩ := q4
  cases r1
  have I5 : Inv X pins σ H4 { s4 with heap := s4.heap.push { cls := .type "slice", data := .fields #[vl, vu, vs] } } := I4.kept (t' := s4.toks) fun b ob z => Heap.get?_push_of_some _ z
  obtain ⟨its, r, hpl, hz⟩ := I5.list hx
  have hlen : its.length = xs.length := r.length.symm
  show wpAny (model X.prog X.w) X.A (subscriptTail e (.Slice lo hi (some st) p2) (.ref a) (.ref s4.heap.objs.size)) (EP X pins σ Q) X.xe { s4 with heap := s4.heap.push { cls := .type "slice", data := .fields #[vl, vu, vs] } }
  refine tail_any (ops := [.ref a, .ref s4.heap.objs.size]) hpl.isList.typeIs PySem.F.slot_list_getitem.lookup ?_ (by with_unfolding_all rfl)
  refine wpAny_getItem_list_slice hpl.isList (Heap.IsSliceOf.new ..) pl pu ps h0 ?_ (by rw [List.size_toArray]; omega)
  have rv := pick_vals r (sliceRange (sliceBounds l u c xs.length).1 (sliceBounds l u c xs.length).2.1 (sliceBounds l u c xs.length).2.2)
  have e1 : slicePick its.toArray l u c = (pickG its l u c).toArray := by rw [← slicePick_eq]
  rw [e1]
  have e2 : pickG its l u c = (sliceRange (sliceBounds l u c xs.length).1 (sliceBounds l u c xs.length).2.1 (sliceBounds l u c xs.length).2.2).filterMap (its[·]?) := by unfold pickG; rw [hlen]
  have sz : (pickG xs l u c).length ≤ sizeLine := by
    have h1 := slicePick_size_le its.toArray l u c
    rw [e1, List.size_toArray, List.size_toArray] at h1
    have h2 := rv.length
    rw [← e2] at h2
    unfold pickG
    omega
  rw [e2]
  exact ⟨.ref _, _, I5.lnew (t' := s4.toks) rv sz, rfl, q _ I5.fresh⟩
def pickD (ds : List D) (lo hi st : Option Int) : List D := pickG ds lo hi st
def mSl3 (fa : DEnv → R D) (fl fh fs : DEnv → R (Option Int)) : DEnv → R Own := fun env => (fa env).bind fun d => (fl env).bind fun l => (fh env).bind fun h => (fs env).bind fun c => match d with
  | .lst ds => if c = some 0 then .bad else .ok (.lst (pickG ds l h c))
  | _ => .bad
theorem n_sl3 {st : Expr} {p2 : Pos} {fl fh fst : DEnv → R (Option Int)} (ha : PE X e (rdB G W fa)) (hl : PO X lo (rdO G W fl)) (hh : PO X hi (rdO G W fh)) (hst : PO X (some st) (rdO G W fst)) (hK : X.K = G.K := by rfl) :
    PE X (.Subscript e (.Slice lo hi (some st) p2) pos) (rdN G W (mSl3 fa fl fh fst)) :=
  pe_mono (pe_slice3 ha hl hh hst) fun σ H Q ⟨H0, F0, F, env, s, o⟩ => ⟨H0, F0, F, env, s, by
    unfold mSl3 at o
    cases q1 : fa env with
    | exc c n => rw [q1] at o; exact o
    | bad => rw [q1] at o; exact o
    | ok d =>
    rw [q1, R.bind_ok] at o
    intro F1 H1 v s1 f1 h1 r1
    refine ⟨H0, F0, F1, env, s1, ?_⟩
    cases q2 : fl env with
    | exc c n => rw [q2] at o; exact o
    | bad => rw [q2] at o; exact o
    | ok l =>
    rw [q2, R.bind_ok] at o
    intro F2 H2 l' s2 f2 h2 e2
    subst e2
    refine ⟨H0, F0, F2, env, s2, ?_⟩
    cases q3 : fh env with
    | exc c n => rw [q3] at o; exact o
    | bad => rw [q3] at o; exact o
    | ok h =>
    rw [q3, R.bind_ok] at o
    intro F3 H3 h' s3 f3 h3 e3
    subst e3
    refine ⟨H0, F0, F3, env, s3, ?_⟩
    cases q4 : fst env with
    | exc c n => rw [q4] at o; exact o
    | bad => rw [q4] at o; exact o
    | ok c =>
    rw [q4, R.bind_ok] at o
    intro F4 H4 c' s4 f4 h4 e4
    subst e4
    cases d with
    | lst ds =>
      dsimp only at o
      split at o
      · exact o.elim
      · rename_i hc
        obtain ⟨aa, vs, rfl, hq, rs⟩ := r1.mono ((f2.trans f3).trans f4) ((h2.trans h3).trans h4)
        refine ⟨aa, vs, rfl, by rw [hK]; exact hq, hc, fun p hp => ?_⟩
        have hh4 := ((h1.trans h2).trans h3).trans h4
        have nH : H p = none := hh4.free hp
        refine o F4 _ p (s4.heap (fun b u z => ?_) (fun b u z => ?_) fun i qq c q e1 e2 => ?_) (((f1.trans f2).trans f3).trans f4) (hh4.trans (same_new hp)) nH (s4.fh.free hp) ⟨_, upd_same, ?_⟩
        · rw [upd_ne (ne_of_none (s4.h0 _ _ z) hp)]; exact s4.h0 _ _ z
        · rw [upd_ne (ne_of_none (s4.fh _ _ z) hp)]; exact s4.fh _ _ z
        · exact upd_ne fun z => by subst z; exact s4.notOwn hp i qq c e1 e2
        · unfold pickG
          rw [rs.length]
          exact pick_reps rs _
    | _ => exact o.elim⟩

/-! ### x op= e, an int; (a, b) = e -/
def sAug (i : Nat) (g : D → D → Option D) (fe : DEnv → R D) : DEnv → Out := sSet i (mOp g (mVar i) fe)
theorem y_augR {i : Nat} {x : Str} {op : Operator} {r : R2} {g : D → D → Option D} {pos' : Pos} (hS : Sit X W k) (ho : OpR X (inplaceOp op) r) (hr : OpD G r g) (he : PE X e (rdB G W fe)) (hi : X.N[i]? = some x := by rfl) (hx : Loc X.env.scope x := by first | exact Or.inl rfl | exact Or.inr rfl)
    (hf : X.fn x = true ∨ X.env.scope.names.lookup x = some .local := by first | exact .inl rfl | exact .inr rfl) : PS X (.AugAssign (.Name x pos') op e pos) (rdS G W (sAug i g fe)) :=
  ps_mono (ps_aug (i := i) hS.nd hi hx he (ti := r) (fun pins s σ H x y v u Q I rx ry q => ho pins s σ H x y v u Q I rx ry q) hf) fun En σ H ⟨H0, F0, F, env, s, o⟩ => by
    unfold sAug sSet mOp mVar at o
    cases q : env[i]? with
    | none => rw [q] at o; exact o.elim
    | some z =>
      cases z with
      | none => rw [q] at o; exact o.elim
      | some y =>
        obtain ⟨v, e1, h1⟩ := s.sl i y q
        cases y with
        | ow qq c => rw [q] at o; exact o.elim
        | raw u => rw [q] at o; exact o.elim
        | fr d =>
          rw [q] at o
          dsimp only [R.bind_ok] at o
          refine ⟨v, e1, H0, F0, F, env, s, ?_⟩
          cases q2 : fe env with
          | exc c n => rw [q2] at o; exact fun cls dd F' H' s' x => o cls dd F' H' σ s' x
          | bad => rw [q2] at o; exact o.elim
          | ok d2 =>
            rw [q2] at o
            intro F1 H1 v2 s1 f1 h1' r1
            cases q3 : g d d2 with
            | none => simp only [R.bind_ok, q3, R.ofO_none, outR_bad] at o; exact o.elim
            | some d3 =>
              simp only [R.bind_ok, q3, R.ofO_some, outR_ok] at o
              have hv : Rep G F v d := h1
              exact hr F1 H1 v v2 d d2 d3 _ s1.fh (Bor.of s1.fh (Rep.mono f1 hv)) r1 q3 fun F2 H2 w ex rw_ => o F2 H2 _ ((s1.ext ex).setD rw_)
def sAsgT (is : List Nat) (fe : DEnv → R D) : DEnv → Out := fun env => outR (fe env) env fun d => match tgT is d env with
  | some e => .nx e
  | none => .bad
theorem y_asgT {tg : Expr} {is : List Nat} (he : PE X e (rdE G W fe)) (hg : PG X tg (rdG G is (tgT is))) (hs : swapsWithSole [tg] e pos.line X.env = pure false := by rfl) (hw : swappedStores [tg] e X.env = pure none := by rfl)
    (h1 : (assignEach [tg] X.env).map (·.2) = [assign tg X.env] := by rfl) : PS X (.Assign [tg] e pos) (rdS G W (sAsgT is fe)) :=
  ps_mono (ps_asg he hg hs hw h1) fun En σ H ⟨H0, F0, F, env, s, o⟩ => ⟨H0, F0, F, env, s, OkE.ofOut s o fun d F1 H1 v _ s1 f1 h1 r1 o1 => ⟨H0, F0, F1, env, d, s1, r1, by
    cases q : tgT is d env with
    | none => rw [q] at o1; exact o1.elim
    | some e2 => rw [q] at o1; exact fun σ' s' _ => o1 F1 H1 σ' s'⟩⟩
def gAddI : D → D → Option D
  | .int i, .int j => some (.int (i + j))
  | _, _ => none
theorem d_addI : OpD G (rI0 fun i j => .int (i + j)) gAddI := d_I0 (fun _ _ _ => .int _) fun a b d q => by
  unfold gAddI at q
  split at q
  · cases q; exact ⟨_, _, rfl, rfl, rfl⟩
  · cases q
theorem t_pw {tt : TT} (h : PW X e tt) : PT X e tt := h.pt
end
/-- a def of the text: where it stands, what it is -/
structure Dn (K : PySem.W.Frag) (mg : Str → Option Value) (x : Str) (st : Stmt) (ps : List Str) where
  f : Addr
  fd : FuncData
  F : Fun K x x st f fd
  b : Binds K fd ps []
  m : mg x = some (.ref f)
  kp : PySem.W.keepIn K (.ref f) = true
end S

set_option Elab.async false
set_option linter.all false
set_option maxRecDepth 100000
set_option maxHeartbeats 4000000
namespace S
open PySem PySem.Spec PyProof.Rows L2

section
variable {X : Cx} {G : Par} {W : WX} {k : Nat} {tg e a b c : Expr} {lo hi : Option Expr} {es : List Expr} {pos : Pos} {fa fb fe : DEnv → R D} {fs : DEnv → R (List D)}
/-! ### a list or a tuple, walked -/
def iSeq (K : PySem.W.Frag) (tl : TE) : TI := fun σ H R => tl σ H fun x H1 => ∃ p, x = .ref p ∧ (((∃ xs, SqL K H1 p xs) ∧ R (Itl K p) H1) ∨ ((∃ xs, SqT K H1 p xs) ∧ R (Itt K p) H1))
theorem pi_seq {l : Expr} {tl : TE} (hl : PE X l tl) : PI X tg l (iSeq X.K tl) := by
  refine ⟨fun pins s σ H R I h => ?_⟩
  refine thn (hl.run pins s σ H _ I h) fun v s1 hh => ?_
  obtain ⟨x, H1, I1, r1, p, rfl, q⟩ := hh
  cases r1
  have fp : ∀ b : Addr, b ∈ [s1.heap.objs.size] → FpOk X pins H1 b := fun b hb => by
    obtain rfl : b = s1.heap.objs.size := by simpa using hb
    exact I1.fpOk (Nat.le_refl _) (I1.hok.fresh (Nat.le_refl _))
  rcases q with ⟨⟨xs, hq⟩, q⟩ | ⟨⟨xs, hq⟩, q⟩
  · obtain ⟨its, rv, pl, hz⟩ := I1.list hq
    refine wpAny_pyIter_list pl.isList ?_
    exact ⟨s1.heap.objs.size, [s1.heap.objs.size], _, _, H1, rfl, I1.kept (t' := s1.toks) fun b o z => Heap.get?_push_of_some _ z, turn_list p _, ⟨_, Heap.get?_push_size _ rfl, rfl, rfl⟩, fp, q⟩
  · obtain ⟨its, rv, pl, hz⟩ := I1.tuple hq
    refine wpAny_pyIter_tuple (show s1.heap.IsTuple p its.toArray from pl) ?_
    exact ⟨s1.heap.objs.size, [s1.heap.objs.size], _, _, H1, rfl, I1.kept (t' := s1.toks) fun b o z => Heap.get?_push_of_some _ z, turn_tuple p _, ⟨_, Heap.get?_push_size _ rfl, rfl, rfl⟩, fp, q⟩
def itS : D → Option (List D)
  | .lst ds => some ds
  | .tup ds => some ds
  | _ => none
theorem w_seq (he : PE X e (rdE G W fa)) (hK : X.K = G.K := by rfl) : PI X tg e (rdI G W (mIt itS fa)) :=
  pi_mono (pi_seq he) fun σ H R ⟨H0, F0, F, env, s, o⟩ => ⟨H0, F0, F, env, s, rdI_of s o fun a ds F1 H1 b s1 v q k => by
    cases a with
    | lst es =>
      cases q
      cases v with
      | lst hq r =>
        refine ⟨_, rfl, .inl ⟨⟨_, by rw [hK]; exact same_sqL s1.fh hq⟩, k _ ?_⟩⟩
        rw [hK]
        exact walk_list rfl (fun F2 H2 f h => same_sqL (f.trans h) hq) r
    | tup es =>
      cases q
      cases v with
      | tup hq r =>
        refine ⟨_, rfl, .inr ⟨⟨_, .of (s1.fh _ _ hq)⟩, k _ fun i F2 H2 f h => ?_⟩⟩
        rw [hK]
        have hq2 : SqT G.K H2 _ _ := .of (h _ _ (f _ _ hq))
        refine ⟨fun d hd => ?_, fun hl => ⟨_, hq2, by rw [r.length]; exact hl⟩⟩
        obtain ⟨v, e1, r1⟩ := r.get i hd
        refine ⟨⟨_, v, hq2, e1⟩, fun x H3 y => ?_⟩
        obtain ⟨rfl, y2⟩ := y
        have := y2 _ hq2
        rw [e1] at this; cases this
        exact ⟨F2, .refl h, r1.mono f⟩
    | _ => cases q⟩

/-! ### x[lo:hi], x a list, a tuple, a text -/
def mSlA (fa : DEnv → R D) (fl fh : DEnv → R (Option Int)) : DEnv → R D := fun env => (fa env).bind fun d => (fl env).bind fun l => (fh env).bind fun h => match d with
  | .tup ds => .ok (.tup (cutD ds l h))
  | .lst ds => .ok (.lst (cutD ds l h))
  | .str z => if z.length ≤ 1000000 then .ok (.str (cutS z l h)) else .bad
  | _ => .bad
theorem e_slA {p2 : Pos} {fl fh : DEnv → R (Option Int)} (ha : PE X a (rdB G W fa)) (hl : PO X lo (rdO G W fl)) (hh : PO X hi (rdO G W fh)) (hK : X.K = G.K := by rfl) : PE X (.Subscript a (.Slice lo hi none p2) pos) (rdE G W (mSlA fa fl fh)) :=
  pe_mono (pe_slice (sl_tupA.or (sl_list.or sl_str)) ha hl hh) fun σ H Q ⟨H0, F0, F, env, s, o⟩ => ⟨H0, F0, F, env, s, o.step fun d F1 H1 v s1 f1 h1 r1 o1 => ⟨H0, F0, F1, env, s1, o1.step fun l F2 H2 l' s2 f2 h2 e2 o2 => ⟨H0, F0, F2, env, s2, o2.step fun h F3 H3 h' s3 f3 h3 e3 o3 => by
    subst e2; subst e3
    cases d with
    | tup ds =>
      refine .inl ?_
      have r1' := Rep.mono (f2.trans f3) r1
      have r2 := r1'
      cases r1' with | tup hq rs =>
      rename_i vs
      refine ⟨_, vs, rfl, by rw [hK]; exact .of (s3.fh _ _ hq), fun z => ?_, fun z p hp => ?_⟩
      · have e : cutD ds l' h' = ds := by
          unfold cutD
          rw [rs.length] at z
          rw [z.1, z.2, List.drop_zero, Nat.sub_zero, List.take_length]
        dsimp only at o3
        rw [e] at o3
        exact o3 F3 H3 _ s3 (.refl _) (.refl _) r2
      · have ex := Ext.new (o := .tup (cutV vs l' h')) s3.fh hp
        exact o3 _ _ _ (s3.ext ex) ex.f ex.h (.tup upd_same ((cut_rep _ _ rs).mono ex.f))
    | lst ds =>
      refine .inr (.inl ?_)
      obtain ⟨p, vs, rfl, hq, rs⟩ := r1.mono (f2.trans f3) (h2.trans h3)
      refine ⟨p, vs, rfl, by rw [hK]; exact hq, fun p hp => ?_⟩
      have ex := Ext.new (o := .lst (cutV vs l' h')) s3.fh hp
      exact o3 _ _ _ (s3.ext ex) ex.f ex.h (.lst (.of upd_same) ((cut_rep _ _ rs).mono ex.f))
    | str z =>
      refine .inr (.inr ?_)
      cases r1
      dsimp only at o3
      split at o3
      · rename_i hz
        exact ⟨z, rfl, le_line hz, o3 F3 H3 _ s3 (.refl _) (.refl _) (.str _)⟩
      · exact o3.elim
    | _ => exact o3.elim⟩⟩⟩

/-! ### raise X('..') of a class of one's own -/
structure ExC (K : PySem.W.Frag) (mg : Str → Option Value) (x : Str) where
  c : Addr
  m : mg x = some (.ref c)
  kp : PySem.W.keepIn K (.ref c) = true
  ex : PySem.W.excIn K c [.type "ValueError", .type "Exception", .type "BaseException", .type "object"] "ValueError.__new__" = true
  su : PySem.W.subIn K (.ref c) (.type "BaseException") = some true
  ty : PySem.W.typeIn K (.ref c) = some (.type "type")
theorem y_raise {x m : Str} {j : Nat} {p p2 pos' : Pos} (hS : Sit X W k) (T : ExC G.K G.mg x) (hK : X.K = G.K := by rfl) (hm : X.mg = G.mg := by rfl) (hg : Gl X x := by rfl) (hdb : (x == ("__debug__" : Str)) = false := by decide) :
    PS X (.Raise (some (.Call (.Name x p) [.Constant (.str m) j p2] [] pos')) none pos) (rdS G W (sRaise x)) :=
  ps_mono (ps_raise hS.calm hS.tk (pmk_own (C := T.c) PySem.F.excBase_ValueError (by rw [hK]; exact T.ex) (by rw [hm]; exact T.m) (by rw [hK]; exact T.kp) (raises_own (by rw [hK]; exact T.su) (by rw [hK]; exact T.ty)) hg hdb)) fun En σ H ⟨H0, F0, F, env, s, o⟩ =>
    o (.ref T.c) none F H σ s ⟨T.m, rfl⟩
end

/-! ### Web(places, ties) -/
def bW1 : DEnv → Out := sIf (mNot (mTest (mChain gLe gLe (mC (.int 1)) (mVarB 1) (mC (.int 60))))) (sRaise "BadPlaces") sNx
def bW2 : DEnv → Out := sSetN 3 (mLst mNil)
def bW3 : DEnv → Out := sFor (mIt itS (mVar 2)) (tgT [4, 5]) (sSeq (sSet 6 (mTup (mCons (mAp gMin2 (mCons (mVarB 4) (mCons (mVarB 5) mNil))) (mCons (mAp gMax2 (mCons (mVarB 4) (mCons (mVarB 5) mNil))) mNil))))
    (sSeq (sIf (mOr (mTest (mOp gEq (mVarB 4) (mVarB 5))) (mOr (mTest (mOp gLt (mOp gIx (mVarB 6) (mC (.int 0))) (mC (.int 0)))) (mOr (mTest (mOp gGe (mOp gIx (mVarB 6) (mC (.int 1))) (mVarB 1))) (mTest (mOp gIn (mVarB 6) (mVarB 3)))))) (sRaise "BadTie") sNx)
    (sMt1 isLst oApp 3 (mVar 6))))
def bW4 : DEnv → R D := mVar 1
def bW5 : DEnv → R D := mAp gTuple (mCons (mOfN (mAp gSorted (mCons (mVarB 3) mNil))) mNil)
/-! pairs of whole numbers -/
def pr (q : Int × Int) : D := .tup [.int q.1, .int q.2]
def prs : List D → Option (List (Int × Int))
  | [] => some []
  | .tup [.int a, .int b] :: r => (prs r).map ((a, b) :: ·)
  | _ => none
theorem prs_eq : ∀ {ds : List D} {ps : List (Int × Int)}, prs ds = some ps → ds = ps.map pr
  | [], ps, h => by cases h; rfl
  | d :: r, ps, h => by
    unfold prs at h
    split at h
    · rename_i e; cases e
    · rename_i a b r' e
      cases e
      cases q : prs r with
      | none => rw [q] at h; cases h
      | some ps' => rw [q] at h; cases h; rw [prs_eq q]; rfl
    · cases h
theorem prs_map : ∀ ps : List (Int × Int), prs (ps.map pr) = some ps
  | [] => rfl
  | (a, b) :: r => by
    show (prs (r.map pr)).map ((a, b) :: ·) = _
    rw [prs_map r]; rfl
def minI (a b : Int) : Int := if b < a then b else a
def maxI (a b : Int) : Int := if b > a then b else a
def pairLe (p q : Int × Int) : Bool := decide (p.1 < q.1 ∨ (p.1 = q.1 ∧ p.2 ≤ q.2))
def sortP (ps : List (Int × Int)) : List (Int × Int) := ps.mergeSort pairLe
theorem leD_pr (p q : Int × Int) : leD (pr p) (pr q) = pairLe p q := by
  have := congrFun (congrFun (PySem.W.dataLe_ii (β := Int × Int) (fun p => p.1) (fun p => p.2)) p) q
  exact this
theorem okDs_all {ds : List D} (h : ∀ d ∈ ds, okD d = true) : okDs ds = true := by
  induction ds with
  | nil => rfl
  | cons d ds ih => show (okD d && okDs ds) = true; rw [h d List.mem_cons_self, ih fun e he => h e (List.mem_cons_of_mem _ he)]; rfl
theorem sortOk_pr (ps : List (Int × Int)) : sortOk (ps.map pr) = true := by
  unfold sortOk likeAll
  simp only [Bool.and_eq_true, Bool.or_eq_true, List.all_eq_true, decide_eq_true_eq]
  refine ⟨⟨⟨okDs_all fun d hd => ?_, fun x hx y hy => ?_⟩, .inl fun d hd => ?_⟩, fun d hd => ?_⟩
  · obtain ⟨p, _, rfl⟩ := List.mem_map.mp hd; rfl
  · obtain ⟨p, _, rfl⟩ := List.mem_map.mp hx
    obtain ⟨q, _, rfl⟩ := List.mem_map.mp hy
    simp [pr, py, pys, PySem.W.alike, PySem.W.alikeAll]
  · obtain ⟨p, _, rfl⟩ := List.mem_map.mp hd; rfl
  · obtain ⟨p, _, rfl⟩ := List.mem_map.mp hd
    show max 0 (max 0 0) + 1 ≤ 60
    decide
theorem sort_pr (ps : List (Int × Int)) : gSorted [.lst (ps.map pr)] = some (.lst ((sortP ps).map pr)) := by
  show (if sortOk (ps.map pr) then some (Own.lst ((ps.map pr).mergeSort leD)) else none) = _
  rw [if_pos (sortOk_pr ps)]
  unfold sortP
  rw [List.map_mergeSort (s := leD) (fun p _ q _ => (leD_pr p q).symm)]
theorem eqD_pr (p q : Int × Int) : eqD (pr p) (pr q) = decide (p = q) := by
  obtain ⟨a, b⟩ := p
  obtain ⟨c, d⟩ := q
  show PyData.eqv (.tuple [.int a, .int b]) (.tuple [.int c, .int d]) = _
  simp only [PyData.eqv, PyData.eqvAll, Bool.and_true]
  by_cases h1 : a = c <;> by_cases h2 : b = d <;> simp [h1, h2]
theorem in_pr (q : Int × Int) (ps : List (Int × Int)) : gIn (pr q) (.lst (ps.map pr)) = some (.bl (decide (q ∈ ps))) := by
  have hd : ∀ ps : List (Int × Int), dOk (.lst (ps.map pr)) = true := fun ps => by
    unfold dOk
    rw [Bool.and_eq_true]
    refine ⟨okDs_all fun d hd => ?_, decide_eq_true ?_⟩
    · obtain ⟨p, _, rfl⟩ := List.mem_map.mp hd; rfl
    · show deps (ps.map pr) + 1 ≤ 60
      have : deps (ps.map pr) ≤ 1 := by
        induction ps with
        | nil => show 0 ≤ 1; decide
        | cons p ps ih =>
          show max (dep (pr p)) (deps (ps.map pr)) ≤ 1
          have : dep (pr p) = 1 := rfl
          omega
      omega
  show (inD (pr q) (ps.map pr)).map D.bl = _
  unfold inD
  rw [if_neg (by show ¬ ((flatD (pr q) && _) = true); rw [show flatD (pr q) = false from rfl]; simp), if_pos (by rw [hd ps]; rfl)]
  show some (D.bl _) = _
  congr 2
  induction ps with
  | nil => rfl
  | cons p ps ih =>
    rw [List.map_cons, List.any_cons, ih, eqD_pr]
    by_cases h : p = q
    · subst h; simp
    · have : ¬ q = p := fun z => h z.symm
      simp [h, this]
/-- the ties of a web, as they are taken in -/
def webGo (n : Int) : List (Int × Int) → List (Int × Int) → Option (List (Int × Int))
  | [], f => some f
  | (a, b) :: r, f => if a = b ∨ minI a b < 0 ∨ n ≤ maxI a b ∨ (minI a b, maxI a b) ∈ f then none else webGo n r (f ++ [(minI a b, maxI a b)])
def m_Web : List D → R D
  | [.int n, t] => match (itS t).bind prs with
    | some ps => if ps.length ≤ 100000 then (if 1 ≤ n ∧ n ≤ 60 then (match webGo n ps [] with
        | some f => R.ok (D.obj (.int n) (.tup ((sortP f).map pr)))
        | none => .exc "BadTie" none) else .exc "BadPlaces" none) else .bad
    | none => .bad
  | _ => .bad
theorem web_cases {p t : D} (h : m_Web [p, t] ≠ .bad) : ∃ n ps, p = .int n ∧ itS t = some (ps.map pr) ∧ ps.length ≤ 100000 ∧ m_Web [p, t] = if 1 ≤ n ∧ n ≤ 60 then (match webGo n ps [] with
        | some f => R.ok (D.obj (.int n) (.tup ((sortP f).map pr)))
        | none => .exc "BadTie" none) else .exc "BadPlaces" none := by
  cases p with
  | int n =>
    cases q : (itS t).bind prs with
    | none =>
      exfalso; apply h
      show (match (itS t).bind prs with | some ps => _ | none => R.bad) = _
      rw [q]
    | some ps =>
      obtain ⟨ds, h1, h2⟩ := Option.bind_eq_some_iff.mp q
      have e : m_Web [.int n, t] = if ps.length ≤ 100000 then (if 1 ≤ n ∧ n ≤ 60 then (match webGo n ps [] with
        | some f => R.ok (D.obj (.int n) (.tup ((sortP f).map pr)))
        | none => .exc "BadTie" none) else .exc "BadPlaces" none) else .bad := by
        show (match (itS t).bind prs with
          | some ps => if ps.length ≤ 100000 then (if 1 ≤ n ∧ n ≤ 60 then (match webGo n ps [] with
            | some f => R.ok (D.obj (.int n) (.tup ((sortP f).map pr)))
            | none => .exc "BadTie" none) else .exc "BadPlaces" none) else .bad
          | none => .bad) = _
        rw [q]
      by_cases hl : ps.length ≤ 100000
      · rw [if_pos hl] at e
        exact ⟨n, ps, rfl, by rw [h1, prs_eq h2], hl, e⟩
      · rw [if_neg hl] at e
        exact absurd e h
  | _ => exact absurd rfl h
def finW (e : DEnv) : R D := (bW4 e).bind fun p => (bW5 e).bind fun t => .ok (.obj p t)
def bodyW : DEnv → Out := sSeq (sSet 6 (mTup (mCons (mAp gMin2 (mCons (mVarB 4) (mCons (mVarB 5) mNil))) (mCons (mAp gMax2 (mCons (mVarB 4) (mCons (mVarB 5) mNil))) mNil))))
    (sSeq (sIf (mOr (mTest (mOp gEq (mVarB 4) (mVarB 5))) (mOr (mTest (mOp gLt (mOp gIx (mVarB 6) (mC (.int 0))) (mC (.int 0)))) (mOr (mTest (mOp gGe (mOp gIx (mVarB 6) (mC (.int 1))) (mVarB 1))) (mTest (mOp gIn (mVarB 6) (mVarB 3)))))) (sRaise "BadTie") sNx)
    (sMt1 isLst oApp 3 (mVar 6)))
theorem body_web (v : V) (n a b : Int) (t : D) (f : List (Int × Int)) (hf : f.length < 1000000) (x6 : Option Sl) : ∃ e, e[0]? = some (some (Sl.raw v)) ∧
    bodyW [some (.raw v), some (.fr (.int n)), some (.fr t), some (.ow none (.lst (f.map pr))), some (.fr (.int a)), some (.fr (.int b)), x6] =
    if a = b ∨ minI a b < 0 ∨ n ≤ maxI a b ∨ (minI a b, maxI a b) ∈ f then .xc e "BadTie" none else
      .nx [some (.raw v), some (.fr (.int n)), some (.fr t), some (.ow none (.lst ((f ++ [(minI a b, maxI a b)]).map pr))), some (.fr (.int a)), some (.fr (.int b)), some (.fr (pr (minI a b, maxI a b)))] := by
  have st : sSet 6 (mTup (mCons (mAp gMin2 (mCons (mVarB 4) (mCons (mVarB 5) mNil))) (mCons (mAp gMax2 (mCons (mVarB 4) (mCons (mVarB 5) mNil))) mNil))) [some (.raw v), some (.fr (.int n)), some (.fr t), some (.ow none (.lst (f.map pr))), some (.fr (.int a)), some (.fr (.int b)), x6] =
      .nx [some (.raw v), some (.fr (.int n)), some (.fr t), some (.ow none (.lst (f.map pr))), some (.fr (.int a)), some (.fr (.int b)), some (.fr (pr (minI a b, maxI a b)))] := rfl
  refine ⟨[some (.raw v), some (.fr (.int n)), some (.fr t), some (.ow none (.lst (f.map pr))), some (.fr (.int a)), some (.fr (.int b)), some (.fr (pr (minI a b, maxI a b)))], rfl, ?_⟩
  have c1 : mTest (mOp gEq (mVarB 4) (mVarB 5)) [some (.raw v), some (.fr (.int n)), some (.fr t), some (.ow none (.lst (f.map pr))), some (.fr (.int a)), some (.fr (.int b)), some (.fr (pr (minI a b, maxI a b)))] = .ok (decide (a = b)) := rfl
  have c2 : mTest (mOp gLt (mOp gIx (mVarB 6) (mC (.int 0))) (mC (.int 0))) [some (.raw v), some (.fr (.int n)), some (.fr t), some (.ow none (.lst (f.map pr))), some (.fr (.int a)), some (.fr (.int b)), some (.fr (pr (minI a b, maxI a b)))] = .ok (decide (minI a b < 0)) := rfl
  have c3 : mTest (mOp gGe (mOp gIx (mVarB 6) (mC (.int 1))) (mVarB 1)) [some (.raw v), some (.fr (.int n)), some (.fr t), some (.ow none (.lst (f.map pr))), some (.fr (.int a)), some (.fr (.int b)), some (.fr (pr (minI a b, maxI a b)))] = .ok (decide (n ≤ maxI a b)) := rfl
  have c4 : mTest (mOp gIn (mVarB 6) (mVarB 3)) [some (.raw v), some (.fr (.int n)), some (.fr t), some (.ow none (.lst (f.map pr))), some (.fr (.int a)), some (.fr (.int b)), some (.fr (pr (minI a b, maxI a b)))] = .ok (decide ((minI a b, maxI a b) ∈ f)) := by
    show R.bind (R.ofO (gIn (pr (minI a b, maxI a b)) (.lst (f.map pr)))) (fun d => R.ofO (dB d)) = _
    rw [in_pr]; rfl
  have ap : sMt1 isLst oApp 3 (mVar 6) [some (.raw v), some (.fr (.int n)), some (.fr t), some (.ow none (.lst (f.map pr))), some (.fr (.int a)), some (.fr (.int b)), some (.fr (pr (minI a b, maxI a b)))] =
      .nx [some (.raw v), some (.fr (.int n)), some (.fr t), some (.ow none (.lst ((f ++ [(minI a b, maxI a b)]).map pr))), some (.fr (.int a)), some (.fr (.int b)), some (.fr (pr (minI a b, maxI a b)))] := by
    show (match (if (f.map pr).length < 1000000 then some (Own.lst (f.map pr ++ [pr (minI a b, maxI a b)])) else none) with
      | some c' => Out.nx (([some (.raw v), some (.fr (.int n)), some (.fr t), some (.ow none (.lst (f.map pr))), some (.fr (.int a)), some (.fr (.int b)), some (.fr (pr (minI a b, maxI a b)))] : DEnv).set 3 (some (.ow none c')))
      | none => .bad) = _
    rw [if_pos (by rw [List.length_map]; exact hf)]
    rw [List.map_append]; rfl
  unfold bodyW sSeq
  rw [st]
  dsimp only [Out.thn_nx]
  unfold sIf mOr
  rw [c1]
  by_cases h1 : a = b
  · rw [if_pos (.inl h1), decide_eq_true h1]; rfl
  · rw [decide_eq_false h1]
    simp only [R.bind_ok]
    rw [c2]
    by_cases h2 : minI a b < 0
    · rw [if_pos (.inr (.inl h2)), decide_eq_true h2]; rfl
    · rw [decide_eq_false h2]
      simp only [R.bind_ok]
      rw [c3]
      by_cases h3 : n ≤ maxI a b
      · rw [if_pos (.inr (.inr (.inl h3))), decide_eq_true h3]; rfl
      · rw [decide_eq_false h3]
        simp only [R.bind_ok]
        rw [c4]
        by_cases h4 : (minI a b, maxI a b) ∈ f
        · rw [if_pos (.inr (.inr (.inr h4))), decide_eq_true h4]; rfl
        · rw [if_neg (by simp only [not_or]; exact ⟨h1, h2, h3, h4⟩), decide_eq_false h4]
          exact ap
theorem loop_web (v : V) (n : Int) (t : D) : ∀ (ps f : List (Int × Int)) (x4 x5 x6 : Option Sl), f.length + ps.length ≤ 100000 → ∃ e, e[0]? = some (some (Sl.raw v)) ∧
    match webGo n ps f with
    | none => loopFor (tgT [4, 5]) bodyW (ps.map pr) [some (.raw v), some (.fr (.int n)), some (.fr t), some (.ow none (.lst (f.map pr))), x4, x5, x6] = .xc e "BadTie" none
    | some f' => loopFor (tgT [4, 5]) bodyW (ps.map pr) [some (.raw v), some (.fr (.int n)), some (.fr t), some (.ow none (.lst (f.map pr))), x4, x5, x6] = .nx e ∧ bW4 e = .ok (.int n) ∧ bW5 e = .ok (.tup ((sortP f').map pr))
  | [], f, x4, x5, x6, hl => by
    refine ⟨[some (.raw v), some (.fr (.int n)), some (.fr t), some (.ow none (.lst (f.map pr))), x4, x5, x6], rfl, rfl, rfl, ?_⟩
    have h1 : mOfN (mAp gSorted (mCons (mVarB 3) mNil)) [some (.raw v), some (.fr (.int n)), some (.fr t), some (.ow none (.lst (f.map pr))), x4, x5, x6] = .ok (.lst ((sortP f).map pr)) := by
      show R.map Own.d (R.ofO (gSorted [.lst (f.map pr)])) = _
      rw [sort_pr]; rfl
    have h2 : ∀ e : DEnv, bW5 e = R.bind (R.bind (mOfN (mAp gSorted (mCons (mVarB 3) mNil)) e) (fun x => R.bind (mNil e) fun xs => .ok (x :: xs))) (fun xs => .ofO (gTuple xs)) := fun _ => rfl
    rw [h2, h1]; rfl
  | (a, b) :: r, f, x4, x5, x6, hl => by
    obtain ⟨e, he, hb⟩ := body_web v n a b t f (by simp at hl; omega) x6
    have ht : tgT [4, 5] (pr (a, b)) [some (.raw v), some (.fr (.int n)), some (.fr t), some (.ow none (.lst (f.map pr))), x4, x5, x6] = some [some (.raw v), some (.fr (.int n)), some (.fr t), some (.ow none (.lst (f.map pr))), some (.fr (.int a)), some (.fr (.int b)), x6] := rfl
    unfold webGo
    by_cases h : a = b ∨ minI a b < 0 ∨ n ≤ maxI a b ∨ (minI a b, maxI a b) ∈ f
    · rw [if_pos h] at hb ⊢
      refine ⟨e, he, ?_⟩
      show loopFor _ _ (pr (a, b) :: r.map pr) _ = _
      unfold loopFor
      rw [ht]
      dsimp only
      rw [hb]
    · rw [if_neg h] at hb ⊢
      obtain ⟨e2, he2, h2⟩ := loop_web v n t r (f ++ [(minI a b, maxI a b)]) (some (.fr (.int a))) (some (.fr (.int b))) (some (.fr (pr (minI a b, maxI a b)))) (by simp at hl ⊢; omega)
      refine ⟨e2, he2, ?_⟩
      have step : loopFor (tgT [4, 5]) bodyW (((a, b) :: r).map pr) [some (.raw v), some (.fr (.int n)), some (.fr t), some (.ow none (.lst (f.map pr))), x4, x5, x6] = loopFor (tgT [4, 5]) bodyW (r.map pr) [some (.raw v), some (.fr (.int n)), some (.fr t), some (.ow none (.lst ((f ++ [(minI a b, maxI a b)]).map pr))), some (.fr (.int a)), some (.fr (.int b)), some (.fr (pr (minI a b, maxI a b)))] := by
        show loopFor _ _ (pr (a, b) :: r.map pr) _ = _
        conv => lhs; unfold loopFor
        rw [ht]
        dsimp only
        rw [hb]
      rw [step]
      exact h2
/-- the promise of __init__ -/
def spWI (G : Par) : Sp := fun vs H Q E => ∃ (F H1 : Hp) (x dx : Addr) (vp vt : V) (p t : D), vs = [.ref x, vp, vt] ∧ H = upd (upd H1 dx (.own x)) x (.ins G.C dx []) ∧ H1 x = none ∧ H1 dx = none ∧ dx ≠ x ∧ Same F H1 ∧ (∀ p ps, F p ≠ some (.tbl ps)) ∧ Rep G F vp p ∧ Rep G F vt t ∧
  match m_Web [p, t] with
  | .ok d => ∀ F' H', Ext F H1 F' H' → Rep G F' (.ref x) d → Q .non H'
  | .exc c j => ∀ cls dd F' H', Ext F H1 F' H' → ExcAt G F' cls dd c j → E cls dd H'
  | .bad => False
section
variable {P : Program} {w : World} {K : PySem.W.Frag} {mg : Str → Option Value} {base : Heap} {C : Addr}
theorem rdS_thn {G : Par} {W : WX} {f g : DEnv → Out} {t : TS} {En : Ends} {σ : L2.St} {H : Hp} (h : rdS G W (sSeq f g) { En with nx := t En } σ H) : tSeq (rdS G W f) (tSeq (rdS G W g) t) En σ H := by
  obtain ⟨H0, F0, F, env, s, o⟩ := h
  refine ⟨H0, F0, F, env, s, ?_⟩
  unfold sSeq at o
  cases q : f env with
  | nx e => rw [q] at o; exact fun F' H' σ' s' => ⟨H0, F0, F', e, s', o⟩
  | rt d e => rw [q] at o; exact o
  | bk e => rw [q] at o; exact o
  | ct e => rw [q] at o; exact o
  | xc e c n => rw [q] at o; exact o
  | bad => rw [q] at o; exact o
theorem rdS_thn3 {G : Par} {W : WX} {f g h : DEnv → Out} {t : TS} {En : Ends} {σ : L2.St} {H : Hp} (q : rdS G W (sSeq f (sSeq g h)) { En with nx := t En } σ H) : tSeq (rdS G W f) (tSeq (rdS G W g) (tSeq (rdS G W h) t)) En σ H := by
  obtain ⟨H0, F0, F, env, s, o⟩ := q
  refine ⟨H0, F0, F, env, s, ?_⟩
  unfold sSeq at o
  cases q : f env with
  | nx e => rw [q] at o; exact fun F' H' σ' s' => rdS_thn ⟨H0, F0, F', e, s', o⟩
  | rt d e => rw [q] at o; exact o
  | bk e => rw [q] at o; exact o
  | ct e => rw [q] at o; exact o
  | xc e c n => rw [q] at o; exact o
  | bad => rw [q] at o; exact o
theorem neStr_pt : ¬ (("places" : Str) = "ties") := by decide +kernel
theorem neStr_tp : ¬ (("ties" : Str) = "places") := by decide +kernel
theorem web_init {st : Stmt} {f : Addr} {fd : FuncData} (F : Fun K "__init__" "Web.__init__" st f fd) (S : FnScope ["self", "places", "ties", "found", "one", "other", "tie"] ["self", "places", "ties"] (defScope st)) (T : WebT K C)
    (hb : ∀ (cdv : Value) (A : Around) (outer : List Env) (s : Shared) (H : Hp) (E : XK), Sit (cxOf (L2.CX P w) P w K mg base ["self", "places", "ties", "found", "one", "other", "tie"] "Web.__init__" (defScope st) f cdv A outer s H E) (WL E) 0 →
      PSs (cxOf (L2.CX P w) P w K mg base ["self", "places", "ties", "found", "one", "other", "tie"] "Web.__init__" (defScope st) f cdv A outer s H E) (defBody st)
        (tSeq (rdS ⟨K, mg, C⟩ (WL E) bW1) (tSeq (rdS ⟨K, mg, C⟩ (WL E) bW2) (tSeq (rdS ⟨K, mg, C⟩ (WL E) bW3) (tSeq (sFld K (tVar 0) (rdE ⟨K, mg, C⟩ (WL E) bW4) "places") (sFld K (tVar 0) (rdE ⟨K, mg, C⟩ (WL E) bW5) "ties")))))) :
    FnOk P w K mg base (L2.CX P w) 1 f fd ["self", "places", "ties"] (spWI ⟨K, mg, C⟩) := by
  refine F.okX S (fun vs H Q E h => ?_) fun cdv A outer s H vs Q E hr h => ⟨_, hb cdv A outer s H E ⟨rfl, S.nd, takes_of rfl rfl rfl rfl, hr, passes_of rfl⟩, ?_⟩
  · obtain ⟨_, _, _, _, _, _, _, _, rfl, _⟩ := h
    rfl
  · obtain ⟨F0, H1, x, dx, vp, vt, p, t, rfl, rfl, hx, hdx, hne, f1, nt0, rp, rt, o⟩ := h
    have hxH : (upd (upd H1 dx (.own x)) x (.ins C dx [])) x = some (.ins C dx []) := upd_same
    have s01 : Same H1 (upd (upd H1 dx (.own x)) x (.ins C dx [])) := fun b u z => by rw [upd_ne (ne_of_none z hx), upd_ne (ne_of_none z hdx)]; exact z
    have fH := f1.trans s01
    have ext0 : ∀ {F' H' : Hp} {σ' : L2.St} {e : DEnv}, SR ⟨K, mg, C⟩ (upd (upd H1 dx (.own x)) x (.ins C dx [])) F0 F' H' σ' e → Ext F0 H1 F' H' := fun s' => ⟨s'.f0, s01.trans s'.h0, s'.fh, (fun p hp => s'.fn p fun z => by
      cases q : H1 p with
      | none => exact hp q
      | some u => rw [s01 _ _ q] at z; cases z), fun _ => s'.nt⟩
    have sr : SR ⟨K, mg, C⟩ (upd (upd H1 dx (.own x)) x (.ins C dx [])) F0 F0 (upd (upd H1 dx (.own x)) x (.ins C dx [])) (L2.start ["self", "places", "ties", "found", "one", "other", "tie"] [.ref x, vp, vt]) [some (.raw (.ref x)), some (.fr p), some (.fr t), none, none, none, none] := by
      refine ⟨.refl _, .refl _, fH, fun _ _ => rfl, nt0, rfl, fun i y hy => ?_, fun i j qi qj ci cj q hij ei ej _ _ => ?_⟩
      · match i, hy with
        | 0, hy => cases hy; exact ⟨_, rfl, rfl⟩
        | 1, hy => cases hy; exact ⟨_, rfl, rp⟩
        | 2, hy => cases hy; exact ⟨_, rfl, rt⟩
        | 3, hy => cases hy
        | 4, hy => cases hy
        | 5, hy => cases hy
        | 6, hy => cases hy
        | n + 7, hy => cases hy
      · match i, ei with
        | 0, ei => cases ei
        | 1, ei => cases ei
        | 2, ei => cases ei
        | 3, ei => cases ei
        | 4, ei => cases ei
        | 5, ei => cases ei
        | 6, ei => cases ei
        | n + 7, ei => cases ei
    refine rdS_thn3 ⟨_, F0, F0, _, sr, ?_⟩
    have lp := fun (n : Int) (ps : List (Int × Int)) => loop_web (.ref x) n t ps [] none none none
    have hbad : m_Web [p, t] ≠ .bad := fun z => by rw [z] at o; exact o
    obtain ⟨n, ps, rfl, hds, hlen, em⟩ := web_cases hbad
    rw [em] at o
    have eW1 : bW1 [some (.raw (.ref x)), some (.fr (.int n)), some (.fr t), none, none, none, none] = if 1 ≤ n ∧ n ≤ 60 then .nx [some (.raw (.ref x)), some (.fr (.int n)), some (.fr t), none, none, none, none] else .xc [some (.raw (.ref x)), some (.fr (.int n)), some (.fr t), none, none, none, none] "BadPlaces" none := by
      have c : mNot (mTest (mChain gLe gLe (mC (.int 1)) (mVarB 1) (mC (.int 60)))) [some (.raw (.ref x)), some (.fr (.int n)), some (.fr t), none, none, none, none] = .ok (!decide (1 ≤ n ∧ n ≤ 60)) := by
        have c0 : ∀ e : DEnv, e = [some (.raw (.ref x)), some (.fr (.int n)), some (.fr t), none, none, none, none] → mNot (mTest (mChain gLe gLe (mC (.int 1)) (mVarB 1) (mC (.int 60)))) e = R.bind (R.bind (match some (D.bl (decide ((1 : Int) ≤ n))) with
            | some (.bl true) => R.ofO (some (D.bl (decide (n ≤ 60))))
            | some (.bl false) => .ok (.bl false)
            | _ => .bad) fun d => R.ofO (dB d)) fun b => .ok (!b) := fun e he => by subst he; rfl
        rw [c0 _ rfl]
        by_cases h1 : 1 ≤ n
        · rw [decide_eq_true h1]
          by_cases h2 : n ≤ 60
          · rw [decide_eq_true h2, decide_eq_true ⟨h1, h2⟩]; rfl
          · rw [decide_eq_false h2, decide_eq_false (fun z : 1 ≤ n ∧ n ≤ 60 => h2 z.2)]; rfl
        · rw [decide_eq_false h1, decide_eq_false (fun z : 1 ≤ n ∧ n ≤ 60 => h1 z.1)]; rfl
      unfold bW1 sIf
      rw [c]
      by_cases h : 1 ≤ n ∧ n ≤ 60
      · rw [if_pos h, decide_eq_true h]; rfl
      · rw [if_neg h, decide_eq_false h]; rfl
    unfold sSeq
    rw [eW1]
    by_cases hn : 1 ≤ n ∧ n ≤ 60
    rotate_left
    · rw [if_neg hn] at o ⊢
      exact fun cls dd F' H' σ' s' ex => o cls dd F' H' (ext0 s') ex
    rw [if_pos hn] at o ⊢
    obtain ⟨e, he, hm⟩ := lp n ps (by simpa using hlen)
    have eW3 : (Out.thn (bW2 [some (.raw (.ref x)), some (.fr (.int n)), some (.fr t), none, none, none, none]) bW3) = loopFor (tgT [4, 5]) bodyW (ps.map pr) [some (.raw (.ref x)), some (.fr (.int n)), some (.fr t), some (.ow none (.lst (([] : List (Int × Int)).map pr))), none, none, none] := by
      show outR (R.ofO (itS t)) _ _ = _
      rw [hds]; rfl
    show OkS _ _ _ _ (Out.thn (bW2 [some (.raw (.ref x)), some (.fr (.int n)), some (.fr t), none, none, none, none]) bW3) _
    rw [eW3]
    cases hg : webGo n ps [] with
    | none =>
      rw [hg] at hm o
      dsimp only at hm o
      rw [hm]
      exact fun cls dd F' H' σ' s' ex => o cls dd F' H' (ext0 s') ex
    | some f' =>
    rw [hg] at hm o
    dsimp only at hm o
    obtain ⟨hm1, hm2, hm3⟩ := hm
    rw [hm1]
    intro F' H' σ' s'
    -- the two fields
    have hx0 : (upd (upd H1 dx (.own x)) x (.ins C dx [])) x ≠ none := by rw [hxH]; exact nofun
    have hFx : ∀ {Fz Hz : Hp} {σz : L2.St}, SR ⟨K, mg, C⟩ (upd (upd H1 dx (.own x)) x (.ins C dx [])) F0 Fz Hz σz e → Fz x = none := fun s => (s.fn x hx0).trans (f1.free hx)
    obtain ⟨u0, q0, q1⟩ := s'.sl 0 _ he
    have q1' : u0 = .ref x := q1
    subst q1'
    refine ⟨_, F0, F', e, s', ?_⟩
    rw [hm2]
    intro F2 H2 v2 s2 f2 h2 r2
    refine ⟨.ref x, q0, x, C, dx, [], rfl, s2.h0 _ _ hxH, T.cl, T.nP, by show 0 < 1000; decide, ?_⟩
    have s3 : SR ⟨K, mg, C⟩ (upd (upd (upd H1 dx (.own x)) x (.ins C dx [])) x (.ins C dx (putF "places" v2 []))) F0 F2 (upd H2 x (.ins C dx (putF "places" v2 []))) σ' e := by
      refine ⟨fun b u z => ?_, s2.f0, fun b u z => ?_, fun p hp => s2.fn p ?_, s2.nt, s2.len, fun i y hy => ?_, s2.ds⟩
      · by_cases hb : b = x
        · subst hb; rw [upd_same] at z ⊢; exact z
        · rw [upd_ne hb] at z ⊢; exact s2.h0 _ _ z
      · by_cases hb : b = x
        · subst hb; rw [hFx s2] at z; cases z
        · rw [upd_ne hb]; exact s2.fh _ _ z
      · by_cases hb : p = x
        · subst hb; exact hx0
        · rw [upd_ne hb] at hp; exact hp
      · obtain ⟨v, e1, a1⟩ := s2.sl i y hy
        refine ⟨v, e1, ?_⟩
        cases y with
        | fr d => exact a1
        | raw u => exact a1
        | ow qq c =>
          obtain ⟨p, rfl, iq, n0, nf, o2⟩ := a1
          have hpx : p ≠ x := fun z => by subst z; exact hx0 n0
          exact ⟨p, rfl, iq, by rw [upd_ne hpx]; exact n0, nf, o2.mono (.refl _) (upd_ne hpx)⟩
    refine ⟨_, F0, F2, e, s3, ?_⟩
    rw [hm3]
    intro F4 H4 v4 s4 f4 h4 r4
    have hxH4 : H4 x = some (.ins C dx (putF "places" v2 [])) := h4 _ _ upd_same
    refine ⟨.ref x, q0, x, C, dx, _, rfl, hxH4, T.cl, T.nT, by show 1 < 1000; decide, ?_⟩
    have hF4x : F4 x = none := (s4.fn x (by rw [upd_same]; exact nofun)).trans (f1.free hx)
    have ext : Ext F0 H1 (upd F4 x (.ins C dx (putF "ties" v4 (putF "places" v2 [])))) (upd H4 x (.ins C dx (putF "ties" v4 (putF "places" v2 [])))) := by
      refine ⟨fun b u z => ?_, fun b u z => ?_, fun b u z => ?_, fun p hp => ?_, fun _ b ps => ?_⟩
      · rw [upd_ne (ne_of_none z (f1.free hx))]; exact s4.f0 _ _ z
      · have hb : b ≠ x := ne_of_none z hx
        rw [upd_ne hb]
        refine s4.h0 _ _ ?_
        rw [upd_ne hb]
        exact s01 _ _ z
      · by_cases hb : b = x
        · subst hb; rw [upd_same] at z ⊢; exact z
        · rw [upd_ne hb] at z ⊢; exact s4.fh _ _ z
      · have hb : p ≠ x := fun z => hp (by rw [z]; exact hx)
        rw [upd_ne hb]
        refine s4.fn p ?_
        rw [upd_ne hb]
        intro z
        cases q : H1 p with
        | none => exact hp q
        | some u => rw [s01 _ _ q] at z; cases z
      · by_cases hb : b = x
        · subst hb; rw [upd_same]; exact nofun
        · rw [upd_ne hb]; exact s4.nt b ps
    refine o _ _ ext ?_
    have fx : Same F4 (upd F4 x (.ins C dx (putF "ties" v4 (putF "places" v2 [])))) := fun b u z => by rw [upd_ne (ne_of_none z hF4x)]; exact z
    refine .obj upd_same (p := v2) (t := v4) ?_ ?_ ((Rep.mono f4 r2).mono fx) (Rep.mono fx r4)
    · rw [lookup_putF, if_neg neStr_pt, lookup_putF, if_pos rfl]
    · rw [lookup_putF, if_pos rfl]
end
/-- Web(places, ties) as an expression -/
structure WebMk (K : PySem.W.Frag) (mg : Str → Option Value) (C : Addr) (st : Stmt) where
  fI : Addr
  fd : FuncData
  F : Fun K "__init__" "Web.__init__" st fI fd
  b : Binds K fd ["self", "places", "ties"] []
  mkW : Mk K C fI
  m : mg "Web" = some (.ref C)
section
variable {X : Cx} {G : Par} {W : WX} {k : Nat} {e : Expr} {es : List Expr} {pos p : Pos} {fs : DEnv → R (List D)}
/-- an instance made, what it raises told at the very state -/
theorem make_at {CX : CXT} {f C : Addr} {fd : FuncData} {ps : List Str} {j : Nat} {sp : Sp} {E : XK} {pins : List (Addr × Obj)} {σ : L2.St} {H : Hp} {s : Shared} {Q : VK} {us : List Value} {vs : List V}
    (M : Mk X.K C f) (Fo : FnOk X.prog X.w X.K X.mg X.base CX j f fd ps sp) (hr : Room (j + 1) X.A) (hb : Binds X.K fd ps []) (hx : PassesAt CX X σ E) (I : L2.Inv X pins σ H s) (r : Vals vs us)
    (h : ∀ x dx, H x = none → H dx = none → dx ≠ x → sp (.ref x :: vs) (upd (upd H dx (.own x)) x (.ins C dx [])) (fun v H2 => v = .non ∧ Q (.ref x) H2) E) :
    wpAny (model X.prog X.w) X.A (call (.ref C) us) (EP X pins σ Q) X.xe s := by
  have n1 : H (s.heap.objs.size + 1) = none := I.hok.fresh (Nat.le_succ _)
  have n2 : H s.heap.objs.size = none := I.hok.fresh (Nat.le_refl _)
  have q0 := h _ _ n1 n2 (Nat.ne_of_lt (Nat.lt_succ_self _))
  have J := Inv.made (C := C) I
  have rv : Vals (V.ref (s.heap.objs.size + 1) :: vs) (Value.ref (s.heap.objs.size + 1) :: us) := .cons rfl r
  have len : ((Value.ref (s.heap.objs.size + 1) :: us) ++ []).length = ps.length := by
    have e1 := Fo.len _ _ _ _ q0
    have e2 := rv.length
    rw [List.append_nil, ← e2]
    exact e1
  have bd := hb _ _ J.kIn len
  rw [List.append_nil] at bd
  have run := Fo.run _ X.stack _ _ _ _ _ _ E (hr.make C us []) (J.env0.make C us []) bd rv q0
  refine wpAny_call (make_map (f := f) I.kIn M.makes M.init (beq_iff_eq.mp M.fn) (codeAny_mono run fun res s2 hq => ?_))
  cases res with
  | error err => exact hx pins _ _ err s2 J hq
  | ok flow =>
    cases flow with
    | next => exact hq.elim
    | brk => exact hq.elim
    | cont => exact hq.elim
    | ret u =>
      obtain ⟨v, H', I3, rv, ev, q3⟩ := J.after hq
      subst ev
      exact ⟨rv, V.ref (s.heap.objs.size + 1), H', I3, rfl, q3⟩
theorem e_web {st : Stmt} (hS : Sit X W k) (M : WebMk G.K G.mg G.C st) (ok : FnOk X.prog X.w X.K X.mg X.base (L2.CX X.prog X.w) 1 M.fI M.fd ["self", "places", "ties"] (spWI G)) (ha : PA X (e :: es) (rdAE G W fs)) (hj : 2 ≤ k := by decide) (hK : X.K = G.K := by rfl) (hm : X.mg = G.mg := by rfl) (hg : Gl X "Web" := by rfl)
    (he : starEach (e :: es) X.env = (false, eval e X.env) :: starEach es X.env := by rfl) (hpl : (backTo pos (starEach es X.env)).any (·.1) = false := by rfl) :
    PE X (.Call (.Name "Web" p) (e :: es) [] pos) (rdE G W (mCallN 2 m_Web fs)) := by
  refine ⟨fun pins s σ H Q I h => ?_⟩
  refine wpAny_Call_Name_kw (ld_glob I hg (by rw [hm]; exact M.m) ?_ (by decide))
  refine PySem.W.callWith_K (h₀ := X.base) I.ok.mod.kin (by rw [hK]; exact M.mkW.kp) (thn (ha.run pos pins s σ H (fun vs H1 => ∃ H0 F0 F1 env ds, SR G H0 F0 F1 H1 σ env ∧ Reps G F1 vs ds ∧ ds.length = 2 ∧ OkE G W H0 F0 F1 H1 σ env (vE G) (m_Web ds) Q) I ?_) fun us s1 ⟨vs, H1, I1, r, q⟩ => ⟨I1.kIn, ?_⟩) he hpl
  · obtain ⟨H0, F0, F, env, sr, o⟩ := h
    exact ⟨H0, F0, F, env, sr, o.step fun ds F1 H1 vs s1 f1 h1 r1 o1 => by
      by_cases hl : ds.length = 2
      · rw [if_pos hl] at o1; exact ⟨H0, F0, F1, env, ds, s1, r1, hl, o1⟩
      · rw [if_neg hl] at o1; exact o1.elim⟩
  · obtain ⟨H0, F0, F1, env, ds, sr, rs, hl, o⟩ := q
    refine make_at (C := G.C) (by rw [hK]; exact M.mkW) ok (hS.room.mono hj) (by rw [hK]; exact M.b) (passAt hS.tk σ) I1 r fun x dx hx hdx hne => ?_
    match ds, hl with
    | [p, t], _ =>
      cases rs with
      | cons r1 rs =>
        cases rs with
        | cons r2 rs =>
          cases rs
          refine ⟨F1, H1, x, dx, _, _, p, t, rfl, rfl, hx, hdx, hne, sr.fh, sr.nt, r1, r2, ?_⟩
          cases q : m_Web [p, t] with
          | ok d => rw [q] at o; exact fun F' H' ex rp => ⟨rfl, o F' H' _ (sr.ext ex) ex.f ex.h rp⟩
          | bad => rw [q] at o; exact o
          | exc c j =>
            rw [q] at o
            exact fun cls dd F' H' ex x => o cls dd F' H' (sr.ext ex) x
end
end S

set_option Elab.async false
set_option linter.all false
set_option maxRecDepth 100000
set_option maxHeartbeats 4000000
namespace S
open PySem PySem.Spec PyProof.Rows L2

def addTo (nss : List (List Int)) (i : Nat) (b : Int) : List (List Int) := nss.set i (nss.getD i [] ++ [b])
def adjGo : List (Int × Int) → List (List Int) → List (List Int)
  | [], nss => nss
  | (a, b) :: r, nss => adjGo r (addTo (addTo nss a.toNat b) b.toNat a)
def sortI (ns : List Int) : List Int := ns.mergeSort fun a b => decide (a ≤ b)
def lstI (ns : List Int) : D := .lst (ns.map .int)
def adjOf (n : Nat) (ps : List (Int × Int)) : List (List Int) := (adjGo ps (List.replicate n [])).map sortI
def inRg (n : Int) (ps : List (Int × Int)) : Bool := ps.all fun p => decide (0 ≤ p.1 ∧ p.1 < n ∧ 0 ≤ p.2 ∧ p.2 < n)
def m_nears : List D → R D
  | [t, .int n] => match (itS t).bind prs with
    | some ps => if 0 ≤ n ∧ n ≤ 1000 ∧ ps.length ≤ 10000 ∧ inRg n ps = true then .ok (.lst ((adjOf n.toNat ps).map lstI)) else .bad
    | none => .bad
  | _ => .bad
theorem addTo_length (nss : List (List Int)) (i : Nat) (b : Int) : (addTo nss i b).length = nss.length := by unfold addTo; simp
theorem adjGo_length : ∀ (ps : List (Int × Int)) (nss : List (List Int)), (adjGo ps nss).length = nss.length
  | [], _ => rfl
  | (a, b) :: r, nss => by unfold adjGo; rw [adjGo_length, addTo_length, addTo_length]
/-- what stands: p the list of the lists qs, which hold nss, all new beyond H0 -/
structure Nst (H0 : Hp) (p : Addr) (qs : List Addr) (nss : List (List Int)) (m : Nat) (H : Hp) : Prop where
  s0 : Same H0 H
  p0 : H0 p = none
  q0 : ∀ q ∈ qs, H0 q = none
  nd : (p :: qs).Nodup
  hp : H p = some (.lst (qs.map V.ref))
  ln : qs.length = nss.length
  hq : ∀ (i : Nat) (q : Addr) (ns : List Int), qs[i]? = some q → nss[i]? = some ns → H q = some (.lst (ns.map V.int))
  sz : ∀ ns ∈ nss, ns.length ≤ m
theorem Nst.grow {H0 H H' : Hp} {p : Addr} {qs : List Addr} {nss : List (List Int)} {m : Nat} (h : Nst H0 p qs nss m H) (e : Same H H') : Nst H0 p qs nss m H' :=
  ⟨h.s0.trans e, h.p0, h.q0, h.nd, e _ _ h.hp, h.ln, fun i q ns a b => e _ _ (h.hq i q ns a b), h.sz⟩
theorem Nst.add {H0 H : Hp} {p : Addr} {qs : List Addr} {nss : List (List Int)} {m i : Nat} {q : Addr} {ns : List Int} {b : Int} (h : Nst H0 p qs nss m H) (hq : qs[i]? = some q) (hn : nss[i]? = some ns) :
    Nst H0 p qs (addTo nss i b) (m + 1) (upd H q (.lst (ns.map V.int ++ [V.int b]))) := by
  have hqm : q ∈ qs := List.mem_of_getElem? hq
  have hpq : p ≠ q := fun z => by
    have := (List.nodup_cons.mp h.nd).1
    rw [z] at this; exact this hqm
  have nd := (List.nodup_cons.mp h.nd).2
  refine ⟨fun c u z => ?_, h.p0, h.q0, h.nd, by rw [upd_ne hpq]; exact h.hp, by rw [addTo_length]; exact h.ln, fun j r ms hj hm => ?_, fun ms hm => ?_⟩
  · rw [upd_ne (ne_of_none z (h.q0 q hqm))]; exact h.s0 _ _ z
  · unfold addTo at hm
    have hi : i < nss.length := (List.getElem?_eq_some_iff.mp hn).1
    by_cases hji : i = j
    · subst hji
      rw [hq] at hj; cases hj
      rw [List.getElem?_set_self hi] at hm
      cases hm
      rw [upd_same, List.getD_eq_getElem?_getD, hn]
      simp
    · have hr : r ≠ q := fun z => by
        subst z
        have h1 := (List.getElem?_eq_some_iff.mp hq)
        have h2 := (List.getElem?_eq_some_iff.mp hj)
        obtain ⟨l1, e1⟩ := h1
        obtain ⟨l2, e2⟩ := h2
        have pw := List.pairwise_iff_getElem.mp nd
        rcases Nat.lt_or_gt_of_ne hji with hlt | hgt
        · exact pw i j l1 l2 hlt (e1.trans e2.symm)
        · exact pw j i l2 l1 hgt (e2.trans e1.symm)
      rw [List.getElem?_set_ne hji] at hm
      rw [upd_ne hr]
      exact h.hq j r ms hj hm
  · unfold addTo at hm
    rcases List.mem_or_eq_of_mem_set hm with hm | hm
    · exact Nat.le_succ_of_le (h.sz _ hm)
    · subst hm
      rw [List.getD_eq_getElem?_getD, hn]
      have := h.sz ns (List.mem_of_getElem? hn)
      simp
      exact this
def nN : List Str := ["ties", "many", "nears", "place", "one", "other", "some"]
def bN3 : DEnv → Out := sRet (mOfN (mLc [6] (mIt itS (mVar 2)) (tgN 6) mTrue (mOfN (mAp gSorted (mCons (mVarB 6) mNil)))))
def tN (G : Par) (W : WX) : TS :=
  tSeq (tAsg (tLc (iRng1 (tCons (tVar 1) tNil)) (gName 3) tYes (tLst tNil) [3]) (gName 2))
    (tSeq (tFor (rdI G W (mIt itS (mVar 0))) (gTup G.K 2 (gCons (gName 4) (gCons (gName 5) gNil)))
      (tSeq (tDrop (tBM G.K "list" rAppend (tOp (rIx G.K) (tVar 2) (tVar 4)) (tCons (tVar 5) tNil))) (tDrop (tBM G.K "list" rAppend (tOp (rIx G.K) (tVar 2) (tVar 5)) (tCons (tVar 4) tNil)))))
      (rdS G W bN3))
theorem leD_int (a b : Int) : leD (.int a) (.int b) = decide (a ≤ b) := congrFun (congrFun (PySem.W.dataLe_int (β := Int) (fun a => a)) a) b
theorem sortOk_int (ns : List Int) : sortOk (ns.map .int) = true := by
  unfold sortOk likeAll
  simp only [Bool.and_eq_true, Bool.or_eq_true, List.all_eq_true, decide_eq_true_eq]
  refine ⟨⟨⟨okDs_all fun d hd => ?_, fun x hx y hy => ?_⟩, .inr fun d hd => ?_⟩, fun d hd => ?_⟩
  · obtain ⟨p, _, rfl⟩ := List.mem_map.mp hd; rfl
  · obtain ⟨p, _, rfl⟩ := List.mem_map.mp hx
    obtain ⟨q, _, rfl⟩ := List.mem_map.mp hy
    rfl
  · obtain ⟨p, _, rfl⟩ := List.mem_map.mp hd; rfl
  · obtain ⟨p, _, rfl⟩ := List.mem_map.mp hd
    show 0 ≤ 60
    decide
theorem sort_int (ns : List Int) : gSorted [.lst (ns.map .int)] = some (.lst ((sortI ns).map .int)) := by
  show (if sortOk (ns.map D.int) then some (Own.lst ((ns.map D.int).mergeSort leD)) else none) = _
  rw [if_pos (sortOk_int ns)]
  unfold sortI
  rw [List.map_mergeSort (s := leD) (fun p _ q _ => (leD_int p q).symm)]
section
variable {P : Program} {w : World} {K : PySem.W.Frag} {mg : Str → Option Value} {base : Heap} {C : Addr}
theorem nears_ok {x : Str} {st : Stmt} {f : Addr} {fd : FuncData} (F : Fun K x x st f fd) (S : FnScope nN ["ties", "many"] (defScope st))
    (hb : ∀ (cdv : Value) (A : Around) (outer : List Env) (s : Shared) (H : Hp) (E : XK), Sit (cxOf (L2.CX P w) P w K mg base nN x (defScope st) f cdv A outer s H E) (WL E) 0 →
      PSs (cxOf (L2.CX P w) P w K mg base nN x (defScope st) f cdv A outer s H E) (defBody st) (tN ⟨K, mg, C⟩ (WL E))) :
    FnOk P w K mg base (L2.CX P w) 1 f fd ["ties", "many"] (spD ⟨K, mg, C⟩ 2 m_nears) := by
  refine F.okX S (fun vs H Q E h => ?_) fun cdv A outer s H vs Q E hr h => ⟨_, hb cdv A outer s H E ⟨rfl, S.nd, takes_of rfl rfl rfl rfl, hr, passes_of rfl⟩, ?_⟩
  · obtain ⟨_, ds, _, _, r, hl, _⟩ := h
    rw [r.length, hl]; rfl
  obtain ⟨F0, ds, fH, nt0, r, hl, o⟩ := h
  match ds, hl with
  | [t, n'], _ =>
  cases r with
  | @cons vt _ _ _ rt r =>
  cases r with
  | @cons vn _ _ _ rn r =>
  cases r
  cases n' with
  | int n =>
    cases rn
    cases q : (itS t).bind prs with
    | none =>
      exfalso
      have e : m_nears [t, .int n] = .bad := by
        show (match (itS t).bind prs with | some ps => _ | none => R.bad) = _
        rw [q]
      rw [e] at o; exact o
    | some ps =>
    have em : m_nears [t, .int n] = if 0 ≤ n ∧ n ≤ 1000 ∧ ps.length ≤ 10000 ∧ inRg n ps = true then .ok (.lst ((adjOf n.toNat ps).map lstI)) else .bad := by
      show (match (itS t).bind prs with | some ps => _ | none => R.bad) = _
      rw [q]
    rw [em] at o
    by_cases hc : 0 ≤ n ∧ n ≤ 1000 ∧ ps.length ≤ 10000 ∧ inRg n ps = true
    rotate_left
    · rw [if_neg hc] at o; exact o.elim
    rw [if_pos hc] at o
    obtain ⟨h0, h1, h2, h3⟩ := hc
    obtain ⟨es, hes, hpr⟩ := Option.bind_eq_some_iff.mp q
    obtain rfl := prs_eq hpr
    -- nears = [[] for place in range(many)]
    refine ⟨_, rfl, n, rfl, by omega, by omega, fun Dl hD => ?_⟩
    refine lc_range (fun i H' => ∃ qs : List Addr, qs.length = i ∧ Nst H Dl qs (List.replicate i []) 0 H') ⟨[], rfl, (fun c u z => by rw [upd_ne (ne_of_none z hD)]; exact z), hD, (fun _ z => nomatch z), by simp, upd_same, rfl, (fun i q ns a b => by simp at a), (fun _ z => by simp at z)⟩ (fun i H' hi hN => ?_) fun H' hN => ?_
    · obtain ⟨qs, hl, N⟩ := hN
      refine ⟨rfl, ?_⟩
      dsimp only [tYes]
      rw [if_pos rfl]
      refine ⟨Nat.zero_le _, fun q hq => ?_⟩
      have N2 := N.grow (same_new (o := .lst []) hq)
      refine ⟨_, N2.hp, lt_line (by rw [List.length_map]; omega), qs ++ [q], by simp [hl], ?_⟩
      have hqD : Dl ≠ q := fun z => by rw [← z, N.hp] at hq; cases hq
      have hqq : q ∉ qs := fun z => by
        obtain ⟨j, hj, ej⟩ := List.getElem_of_mem z
        have := N.hq j q [] (by rw [List.getElem?_eq_getElem hj, ej]) (by rw [List.getElem?_replicate, if_pos (by omega)])
        rw [hq] at this; cases this
      refine ⟨fun c u z => ?_, hD, fun r hr => ?_, ?_, ?_, by simp [hl], fun j r ns hj hn => ?_, fun ns hn => ?_⟩
      · rw [upd_ne (ne_of_none z hD)]; exact N2.s0 _ _ z
      · rcases List.mem_append.mp hr with hr | hr
        · exact N.q0 r hr
        · obtain rfl := List.mem_singleton.mp hr
          exact N.s0.free hq
      · have h1 := List.nodup_cons.mp N.nd
        refine List.nodup_cons.mpr ⟨fun z => ?_, ?_⟩
        · rcases List.mem_append.mp z with z | z
          · exact h1.1 z
          · exact hqD (List.mem_singleton.mp z)
        · exact List.nodup_append.mpr ⟨h1.2, by simp, fun a ha b hb => by obtain rfl := List.mem_singleton.mp hb; exact fun z => hqq (by rw [← z]; exact ha)⟩
      · rw [upd_same, List.map_append]; rfl
      · have hns : ns = [] := by
          have := List.mem_of_getElem? hn
          exact (List.mem_replicate.mp this).2
        subst hns
        have hr : r ∈ qs ++ [q] := List.mem_of_getElem? hj
        have hrD : r ≠ Dl := fun z => by
          subst z
          rcases List.mem_append.mp hr with hr | hr
          · exact (List.nodup_cons.mp N.nd).1 hr
          · exact hqD (List.mem_singleton.mp hr)
        rw [upd_ne hrD]
        rcases List.mem_append.mp hr with hr | hr
        · obtain ⟨j', hj', ej'⟩ := List.getElem_of_mem hr
          exact N2.hq j' r [] (by rw [List.getElem?_eq_getElem hj', ej']) (by rw [List.getElem?_replicate, if_pos (by omega)])
        · obtain rfl := List.mem_singleton.mp hr
          exact upd_same
      · have := (List.mem_replicate.mp hn).2
        rw [this]; exact Nat.le_refl _
    · obtain ⟨qs, hl, N⟩ := hN
      have hln : qs.length = n.toNat := hl
      -- for one, other in ties
      have fH2 : Same F0 H' := fH.trans N.s0
      have notF : ∀ q, q ∈ Dl :: qs → F0 q = none := fun q hq => by
        rcases List.mem_cons.mp hq with z | z
        · subst z; exact fH.free hD
        · exact fH.free (N.q0 q z)
      have sr : SR ⟨K, mg, C⟩ H' F0 F0 H' ((L2.start nN [vt, .int n]).set 2 (some (.ref Dl))) [some (.fr t), none, none, none, none, none, none] := by
        refine ⟨.refl _, .refl _, fH2, fun _ _ => rfl, nt0, rfl, fun i y hy => ?_, fun i j qi qj ci cj q hij ei ej _ _ => ?_⟩
        · match i, hy with
          | 0, hy => cases hy; exact ⟨_, rfl, rt⟩
          | 1, hy => cases hy
          | 2, hy => cases hy
          | 3, hy => cases hy
          | 4, hy => cases hy
          | 5, hy => cases hy
          | 6, hy => cases hy
          | n + 7, hy => cases hy
        · match i, ei with
          | 0, ei => cases ei
          | 1, ei => cases ei
          | 2, ei => cases ei
          | 3, ei => cases ei
          | 4, ei => cases ei
          | 5, ei => cases ei
          | 6, ei => cases ei
          | n + 7, ei => cases ei
      refine ⟨H', F0, F0, _, sr, ?_⟩
      have ei : mIt itS (mVar 0) [some (.fr t), none, none, none, none, none, none] = .ok (ps.map pr) := by
        show R.ofO (itS t) = _
        rw [hes]; rfl
      rw [ei]
      intro F1 H1 J s1 f1 hh1 wk
      have notF1 : ∀ q, q ∈ Dl :: qs → F1 q = none := fun q hq => by
        have hne : H' q ≠ none := by
          rcases List.mem_cons.mp hq with z | z
          · subst z; rw [N.hp]; exact nofun
          · obtain ⟨j, hj, ej⟩ := List.getElem_of_mem z
            rw [N.hq j q [] (by rw [List.getElem?_eq_getElem hj, ej]) (by rw [List.getElem?_replicate, if_pos (by omega)])]; exact nofun
        rw [s1.fn q hne]; exact notF q hq
      have keep : ∀ {Hc : Hp} {q : Addr} {u : HO}, Same F1 Hc → q ∈ Dl :: qs → Same F1 (upd Hc q u) := fun {Hc q u} e hq c v z => by
        rw [upd_ne (ne_of_none z (notF1 q hq))]; exact e _ _ z
      refine ⟨fun i m σ Hc => m = ps.length - i ∧ ∃ (nss : List (List Int)) (x3 x4 x5 : Option V), adjGo (ps.drop i) nss = adjGo ps (List.replicate n.toNat []) ∧ nss.length = n.toNat ∧ Nst H Dl qs nss (2 * i) Hc ∧ Same F1 Hc ∧ σ = [some vt, some (.int n), some (.ref Dl), x3, x4, x5, none],
        ⟨ps.length, by simp, List.replicate n.toNat [], none, none, none, by simp, by simp, by simpa using N.grow hh1, s1.fh, rfl⟩, ?_⟩
      rintro i m σ Hc ⟨rfl, nss, x3, x4, x5, ha, hnl, Nc, fc, rfl⟩
      obtain ⟨w1, w2⟩ := wk i F1 Hc (.refl _) fc
      cases q3 : ps[i]? with
      | none =>
        have hle : ps.length ≤ i := List.getElem?_eq_none_iff.mp q3
        refine .inl ⟨w2 (by simpa using hle), ?_⟩
        rw [List.drop_eq_nil_of_le hle] at ha
        have ha' : nss = adjGo ps (List.replicate n.toNat []) := ha
        -- the lists stand still from now on
        let F2 : Hp := fun b => if b ∈ Dl :: qs then Hc b else F0 b
        have F2in : ∀ b, b ∈ Dl :: qs → F2 b = Hc b := fun b hb => if_pos hb
        have F2out : ∀ b, b ∉ Dl :: qs → F2 b = F0 b := fun b hb => if_neg hb
        have e02 : Same F0 F2 := fun b u z => by
          by_cases hb : b ∈ Dl :: qs
          · rw [notF b hb] at z; cases z
          · rw [F2out b hb]; exact z
        have e2c : Same F2 Hc := fun b u z => by
          by_cases hb : b ∈ Dl :: qs
          · rw [F2in b hb] at z; exact z
          · rw [F2out b hb] at z; exact fH.trans Nc.s0 _ _ z
        have rep : Rep ⟨K, mg, C⟩ F2 (.ref Dl) (.lst (nss.map lstI)) := by
          refine .lst (vs := qs.map V.ref) (.of (by rw [F2in Dl List.mem_cons_self]; exact Nc.hp)) ?_
          have go : ∀ (as : List Addr) (mss : List (List Int)), as.length = mss.length → (∀ (i : Nat) q ns, as[i]? = some q → mss[i]? = some ns → F2 q = some (.lst (ns.map V.int))) → Reps ⟨K, mg, C⟩ F2 (as.map V.ref) (mss.map lstI) := by
            intro as
            induction as with
            | nil => intro mss hl _; cases mss with
              | nil => exact .nil
              | cons _ _ => cases hl
            | cons a as ih => intro mss hl hh; cases mss with
              | nil => cases hl
              | cons ms mss =>
                exact .cons (.lst (.of (hh 0 a ms rfl rfl)) (Reps.of_ints ms)) (ih mss (Nat.succ.inj hl) fun j q ns e1 e2 => hh (j + 1) q ns (by simpa using e1) (by simpa using e2))
          exact go qs nss Nc.ln fun j q ns e1 e2 => by
            rw [F2in q (List.mem_cons_of_mem _ (List.mem_of_getElem? e1))]
            exact Nc.hq j q ns e1 e2
        have nt2 : ∀ b ps, F2 b ≠ some (.tbl ps) := fun b ps' z => by
          by_cases hb : b ∈ Dl :: qs
          · rw [F2in b hb] at z
            rcases List.mem_cons.mp hb with hb | hb
            · subst hb; rw [Nc.hp] at z; cases z
            · obtain ⟨j, hj, ej⟩ := List.getElem_of_mem hb
              rw [Nc.hq j b nss[j] (by rw [List.getElem?_eq_getElem hj, ej]) (List.getElem?_eq_getElem (by rw [← Nc.ln]; exact hj))] at z
              cases z
          · rw [F2out b hb] at z; exact nt0 b ps' z
        have sr2 : SR ⟨K, mg, C⟩ H F0 F2 Hc [some vt, some (.int n), some (.ref Dl), x3, x4, x5, none] [none, none, some (.fr (.lst (nss.map lstI))), none, none, none, none] := by
          refine ⟨Nc.s0, e02, e2c, fun b hb => ?_, nt2, rfl, fun j y hy => ?_, fun j k qi qj ci cj q hij ei ej _ _ => ?_⟩
          · refine F2out b fun z => hb ?_
            rcases List.mem_cons.mp z with z | z
            · subst z; exact hD
            · exact Nc.q0 b z
          · match j, hy with
            | 0, hy => cases hy
            | 1, hy => cases hy
            | 2, hy => cases hy; exact ⟨_, rfl, rep⟩
            | 3, hy => cases hy
            | 4, hy => cases hy
            | 5, hy => cases hy
            | 6, hy => cases hy
            | n + 7, hy => cases hy
          · match j, ei with
            | 0, ei => cases ei
            | 1, ei => cases ei
            | 2, ei => cases ei
            | 3, ei => cases ei
            | 4, ei => cases ei
            | 5, ei => cases ei
            | 6, ei => cases ei
            | n + 7, ei => cases ei
        refine ⟨H, F0, F2, _, sr2, ?_⟩
        have eb : bN3 [none, none, some (.fr (.lst (nss.map lstI))), none, none, none, none] = .rt (.lst ((nss.map sortI).map lstI)) [none, none, some (.fr (.lst (nss.map lstI))), none, none, none, none] := by
          have lg : ∀ mss : List (List Int), lcGo (tgN 6) mTrue (mOfN (mAp gSorted (mCons (mVarB 6) mNil))) [none, none, some (.fr (.lst (nss.map lstI))), none, none, none, none] (mss.map lstI) = .ok ((mss.map sortI).map lstI) := by
            intro mss
            induction mss with
            | nil => rfl
            | cons ms mss ih =>
              have e1 : mOfN (mAp gSorted (mCons (mVarB 6) mNil)) [none, none, some (.fr (.lst (nss.map lstI))), none, none, none, some (.fr (lstI ms))] = .ok (lstI (sortI ms)) := by
                show R.map Own.d (R.ofO (gSorted [.lst (ms.map .int)])) = _
                rw [sort_int]; rfl
              show (match mOfN (mAp gSorted (mCons (mVarB 6) mNil)) [none, none, some (.fr (.lst (nss.map lstI))), none, none, none, some (.fr (lstI ms))] with
                | .ok y => (lcGo (tgN 6) mTrue (mOfN (mAp gSorted (mCons (mVarB 6) mNil))) [none, none, some (.fr (.lst (nss.map lstI))), none, none, none, none] (mss.map lstI)).map (y :: ·)
                | _ => .bad) = _
              rw [e1, ih]; rfl
          have el : mLc [6] (mIt itS (mVar 2)) (tgN 6) mTrue (mOfN (mAp gSorted (mCons (mVarB 6) mNil))) [none, none, some (.fr (.lst (nss.map lstI))), none, none, none, none] = .ok (.lst ((nss.map sortI).map lstI)) := by
            show (if (nss.map lstI).length ≤ 1000000 ∧ _ then R.map Own.lst (lcGo (tgN 6) mTrue (mOfN (mAp gSorted (mCons (mVarB 6) mNil))) [none, none, some (.fr (.lst (nss.map lstI))), none, none, none, none] (nss.map lstI)) else .bad) = _
            rw [if_pos ⟨by rw [List.length_map]; omega, rfl⟩, lg]; rfl
          have e3 : ∀ e : DEnv, bN3 e = outR (R.map Own.d (mLc [6] (mIt itS (mVar 2)) (tgN 6) mTrue (mOfN (mAp gSorted (mCons (mVarB 6) mNil))) e)) e fun d => .rt d e := fun _ => rfl
          rw [e3, el]; rfl
        rw [eb]
        intro F3 H3 σ3 v s3 r3
        have : (nss.map sortI).map lstI = (adjOf n.toNat ps).map lstI := by unfold adjOf; rw [ha']
        rw [this] at r3
        exact o F3 H3 v s3.ended r3
      | some ab =>
        obtain ⟨a, b⟩ := ab
        obtain ⟨hlt, hab⟩ := List.getElem?_eq_some_iff.mp q3
        have rg := List.all_eq_true.mp h3 (a, b) (List.mem_of_getElem? q3)
        have rg' : 0 ≤ a ∧ a < n ∧ 0 ≤ b ∧ b < n := of_decide_eq_true rg
        obtain ⟨go, yl⟩ := w1 (pr (a, b)) (by rw [List.getElem?_map, q3]; rfl)
        rw [drop_cons q3] at ha
        refine .inr ⟨go, fun σ2 H2 => ∃ (nss : List (List Int)) (x3 x4 x5 : Option V), adjGo (ps.drop (i + 1)) nss = adjGo ps (List.replicate n.toNat []) ∧ nss.length = n.toNat ∧ Nst H Dl qs nss (2 * (i + 1)) H2 ∧ Same F1 H2 ∧ σ2 = [some vt, some (.int n), some (.ref Dl), x3, x4, x5, none], fun σ2 H2 h2 => ⟨ps.length - (i + 1), by omega, rfl, h2⟩, fun x H2 y => ?_⟩
        obtain ⟨F2, ex, r2⟩ := yl x H2 y
        cases r2 with
        | tup hq rs =>
        cases rs with
        | cons ra rs =>
        cases rs with
        | cons rb rs =>
        cases rs
        cases ra
        cases rb
        refine ⟨_, _, rfl, .of (ex.fh _ _ hq), rfl, _, _, rfl, _, _, rfl, rfl, ?_⟩
        have N2 := Nc.grow ex.h
        have ga : ∃ qa na, qs[a.toNat]? = some qa ∧ nss[a.toNat]? = some na := ⟨_, _, List.getElem?_eq_getElem (by omega), List.getElem?_eq_getElem (by omega)⟩
        obtain ⟨qa, na, hqa, hna⟩ := ga
        have ha0 : atI (qs.map V.ref) a = some (.ref qa) := by
          have := atI_nat (xs := qs.map V.ref) (j := a.toNat) (v := .ref qa) (by rw [List.getElem?_map, hqa]; rfl)
          rwa [Int.toNat_of_nonneg rg'.1] at this
        refine ⟨_, rfl, _, rfl, .inl ⟨Dl, _, a, _, rfl, rfl, .of N2.hp, ha0, ?_⟩⟩
        have hA := N2.hq _ _ _ hqa hna
        have szA := N2.sz na (List.mem_of_getElem? hna)
        refine ⟨.inl ⟨rfl, _, .of hA⟩, _, rfl, qa, _, _, rfl, rfl, hA, lt_line (by rw [List.length_map]; omega), ?_⟩
        have N3 := N2.add (b := b) hqa hna
        have gb : ∃ qb nb, qs[b.toNat]? = some qb ∧ (addTo nss a.toNat b)[b.toNat]? = some nb := ⟨_, _, List.getElem?_eq_getElem (by omega), List.getElem?_eq_getElem (by rw [addTo_length]; omega)⟩
        obtain ⟨qb, nb, hqb, hnb⟩ := gb
        have hb0 : atI (qs.map V.ref) b = some (.ref qb) := by
          have := atI_nat (xs := qs.map V.ref) (j := b.toNat) (v := .ref qb) (by rw [List.getElem?_map, hqb]; rfl)
          rwa [Int.toNat_of_nonneg rg'.2.2.1] at this
        refine ⟨_, rfl, _, rfl, .inl ⟨Dl, _, b, _, rfl, rfl, .of N3.hp, hb0, ?_⟩⟩
        have hB := N3.hq _ _ _ hqb hnb
        have szB := N3.sz nb (List.mem_of_getElem? hnb)
        refine ⟨.inl ⟨rfl, _, .of hB⟩, _, rfl, qb, _, _, rfl, rfl, hB, lt_line (by rw [List.length_map]; omega), ?_⟩
        have N4 := N3.add (b := a) hqb hnb
        refine ⟨addTo (addTo nss a.toNat b) b.toNat a, x3, some (.int a), some (.int b), ha, by rw [addTo_length, addTo_length]; exact hnl, N4, ?_, rfl⟩
        exact keep (keep (fun c u z => ex.h _ _ (fc _ _ z)) (List.mem_cons_of_mem _ (List.mem_of_getElem? hqa))) (List.mem_cons_of_mem _ (List.mem_of_getElem? hqb))
  | _ =>
    exfalso
    exact o
end
end S

set_option Elab.async false
set_option linter.all false
set_option maxRecDepth 100000
set_option maxHeartbeats 4000000
namespace S
open PySem PySem.Spec PyProof.Rows L2

section
variable {X : Cx} {pins : List (Addr × Obj)} {σ : L2.St} {H : Hp} {s : Shared}
theorem ext_ok {P : Program} {w : World} {H : Hp} {h : Heap} {a : Addr} {cls : Value} {d : Option Addr} {oe : Obj} {vs : Array Value} (e : h.get? a = some oe) (z : Zc cls d oe) (f : oe.data = .fields vs) : ObjOk P w H h a (ExT cls d a) :=
  ⟨⟨oe, vs, e, z, f⟩, ⟨oe, e⟩, fun h1 h2 ⟨o1, v1, a1, a2, a3⟩ st => ⟨o1, v1, st _ a1, a2, a3⟩⟩
/-- an object that is younger than the frame, a record, is told of from now on -/
theorem track {a : Addr} {o : HO} {oe : Obj} {vs : Array Value} (I : L2.Inv X pins σ H s) (ha : s.heap.get? a = some oe) (hd : oe.data = .fields vs) (n0 : X.s_0.heap.get? a = none) (hH : H a = none) (nL : a ≠ X.env.locals) (np : ∀ p ∈ X.pn ++ pins, p.1 ≠ a)
    (ok : ObjOk X.prog X.w (upd H a o) s.heap a o) : L2.Inv X pins σ (upd H a o) s := by
  have ne0 : ∀ b u, X.s_0.heap.get? b = some u → b ≠ a := fun b u e z => by rw [z, n0] at e; cases e
  have B := I.base
  refine ⟨I.ok, I.os, I.bare, ⟨B.keep, B.slot, fun b u e q x => ?_, B.there, fun b xs e => ?_, fun b u v e => ?_, fun b qs e => ?_⟩, I.loc, I.cell, ?_, fun x c e => ?_, fun p hp => ?_, HOk.laidN I.hok (fun _ _ z => z) hH ok, I.len⟩
  · rw [upd_ne (ne0 b u e)]; exact B.free b u e q x
  · have := B.tups b xs e
    rw [upd_ne (ne_of_none this hH)]; exact this
  · have := B.frzs b u v e
    rw [upd_ne (ne_of_none this hH)]; exact this
  · obtain ⟨more, this⟩ := B.tbls b qs e
    exact ⟨more, by rw [upd_ne (ne_of_none this hH)]; exact this⟩
  · rw [upd_ne (Ne.symm nL)]; exact I.free
  · obtain ⟨v, oc, e1, e2⟩ := I.cell x c e
    have : c ≠ a := fun z => by
      rw [z, ha] at e1
      cases e1
      rw [hd] at e2
      cases e2
    rw [upd_ne this]
    exact I.freeC x c e
  · obtain ⟨p1, p2, p3, p4, p5⟩ := I.pin p hp
    exact ⟨p1, by rw [upd_ne (np p hp)]; exact p2, p3, p4, p5⟩
end
/-- what `except c as e: caught = e` wishes: slot i is e's, slot j is caught's -/
def wKeep (K : PySem.W.Frag) (c : Value) (i j : Nat) (Wo : WX) (En : Ends) : WX := fun cls d σ H =>
  ∃ b, PySem.W.exmOne K cls c = some b ∧ (b = false → Wo cls d σ H) ∧ (b = true → ∀ a, H a = none → En.nx (((σ.set i (some (.ref a))).set j (some (.ref a))).set i none) (upd H a (ExT cls d a)))
section
variable {X : Cx} {x n y : Str} {c : Value} {i j : Nat} {body : List Stmt} {np yp ep sp pos pos' : Pos} {tb : WX → TS} {Wo : WX}
theorem try_keep (hs : X.stack = X.env :: X.outer) (hf : X.env.frame = some X.env.locals) (hex : X.ex = []) (hN : X.N.Nodup) (hi : X.N[i]? = some n) (hln : X.env.kindOf n = some .local) (hj : X.N[j]? = some y) (hly : X.env.kindOf y = some .local) (hnd : (n == ("__debug__" : Str)) = false) (hncd : (n == ("__classdict__" : Str)) = false)
    (hc : Names X x c) (tk : Takes X Wo)
    (hsw : ∀ (a : Addr) (pn : List (Addr × Obj)), swapsWith (.Name n ep) (some (.Name y yp)) sp.line (X.suite a pn).env = pure false)
    (hb : ∀ (W : WX) (pn : List (Addr × Obj)) (xe : Value → Shared → Prop), Takes (X.tr pn xe) W → PassesOwn (model X.prog X.w) X.A X.env xe → PSs (X.tr pn xe) body (tb W)) :
    PS X (.Try body [.ExceptHandler (some (.Name x np)) (some n) [.Assign [.Name y yp] (.Name n ep) sp] pos'] [] [] pos) (fun En σ H => tb (wKeep X.K c i j Wo En) En σ H) := by
  refine ⟨fun pins s σ H En I h => ?_⟩
  have okX := I.ok
  have frs0 : X.A.frames = some (X.env :: X.outer) := okX.frames.trans (congrArg some hs)
  have locN : Loc X.env.scope n := .inl hln
  refine wpAny_Try_except ?_
  let HD : List ExceptHandler := [.ExceptHandler (some (.Name x np)) (some n) [.Assign [.Name y yp] (.Name n ep) sp] pos']
  let XE1 : Value → Shared → Prop := fun e s₁ => wpAny (model X.prog X.w) X.A (noteFrame e X.env) (fun _ s₂ => wpAny (model X.prog X.w) X.A (setFlight e none) (fun _ s₃ => wpAny (model X.prog X.w) X.A (handleBy e X.env HD) (SP X pins En) X.xe s₃) X.xe s₂) X.xe s₁
  have caught : Takes (X.tr (X.pn ++ pins) XE1) (wKeep X.K c i j Wo En) := by
    intro u s' xx
    obtain ⟨a, B, sI, pins', σ', H', cls, d, rfl, JT, below, upS, sky, hHa, eos, bare, b, exm, no, yes⟩ := xx
    have J : L2.Inv X pins σ' H' sI := JT.ofTry okX
    have sky2 : Sky B (X.env :: X.outer) a (Zc cls d) X.env.locals s'.heap := hs ▸ sky
    show wpAny (model X.prog X.w) X.A (noteFrame (.ref a) X.env) _ _ _
    refine Sky.land Zc.steady frs0 hf sky2 fun g1 fly1 up1 => ?_
    have J1 : L2.Inv X pins σ' H' { s' with heap := g1 } := J.landed below fly1.1 (upS.trans up1) eos bare
    obtain ⟨o1, v1, get1, z1, dat1⟩ := fly1.there
    have offStack : a ∉ frs (X.env :: X.outer) := fun hm => by
      obtain ⟨_, o2, get2, notRec⟩ := fly1.2.2.1.mem hm
      rw [get1] at get2
      cases get2
      exact notRec _ dat1
    have offL : a ≠ X.env.locals := fun z => offStack (List.mem_filterMap.mpr ⟨X.env, List.mem_cons_self, by rw [hf, z]⟩)
    have offF : a ∉ X.fs := fun hm => by
      obtain ⟨ev, hev, q⟩ := List.mem_filterMap.mp hm
      exact offStack (List.mem_filterMap.mpr ⟨ev, List.mem_cons_of_mem _ hev, q⟩)
    -- the exception is younger than the state it was raised in
    have youngI : sI.heap.get? a = none := by
      cases q : sI.heap.get? a with
      | none => rfl
      | some o3 =>
        have := below a o3 q (by rw [hs]; exact offStack)
        rw [fly1.2.1] at this
        cases this
    have young0 : X.s_0.heap.get? a = none := by
      cases q : X.s_0.heap.get? a with
      | none => rfl
      | some o3 =>
        obtain ⟨o4, q4⟩ := J.base.there a o3 q (by rw [hex]; exact fun z => nomatch z)
        rw [youngI] at q4
        cases q4
    have offPins : ∀ p ∈ X.pn ++ pins, p.1 ≠ a := fun p hp z => by
      have := (J.pin p hp).1
      rw [z, youngI] at this
      cases this
    have JS := J1.suite get1 dat1 hHa offL offF
    refine wpAny_handleBy_cons (codeAny_handlers_test ?_) (by intro q; cases q)
    have seen : PySem.W.Looks (model X.prog X.w) g1 (typeOf (.ref a)) cls := fun A Q E s k q => wpAny_typeOf_ref (k _ _ get1) (by rw [z1.1]; exact q)
    have asked := PySem.W.exm_one (M := model X.prog X.w) J1.kIn seen exm
    have name : ∀ {Q : Value → Shared → Prop} {E : Value → Shared → Prop}, Q c { s' with heap := g1 } → wpAny (model X.prog X.w) (X.A.mark (some (.ref a))) (eval (.Name x np) X.env) Q E { s' with heap := g1 } := fun {Q E} q => by
      obtain ⟨hg, hdbg, hm | ⟨hm, hv, hnn⟩⟩ := hc
      · exact ld_glob (X := X.suite a ((a, o1) :: (X.pn ++ pins))) JS hg hm q hdbg
      · exact ld_blt (X := X.suite a ((a, o1) :: (X.pn ++ pins))) JS hg hm hv q hnn hdbg
    refine name (asked.here ?_)
    cases b with
    | false =>
      show wpAny _ X.A (handleBy (.ref a) X.env []) _ _ _
      refine wpAny_handleBy_nil ?_
      obtain ⟨_, _, _, o2, v2, T, oT, ts', get2, z2, dat2, f1, _⟩ := id fly1
      unfold PySem.passOn
      refine wpAny_bind (wpAny_field get2 dat2 f1 ?_)
      rw [if_neg (show ¬ ((Value.ref T == Value.none) = true) from by simp)]
      have out : wpAny (model X.prog X.w) X.A (setFlight (.ref a) X.env.frame) (fun _ s4 => wpAny (model X.prog X.w) X.A (throw (.ref a) : Sem Flow) (SP X pins En) X.xe s4) X.xe { s' with heap := g1 } := by
        rw [hf]
        refine HandSPX.setFlight_upZ fly1 fun g2 held up2 => wpAny_throw (tk _ _ ?_)
        exact ⟨a, B, sI, pins, σ', H', cls, d, rfl, J, below, (upS.trans up1).trans up2, .inr (.inr (by rw [hs]; exact held)), hHa, eos, bare, no rfl⟩
      first
        | exact wpAny_bind (wpAny_pure (wpAny_bind out))
        | exact wpAny_bind out
    | true =>
      refine codeAny_handlers_suite_as ?_
      refine HandSPX.lands_againZ fly1 fun g2 fly2 up2 => ?_
      have J2 : L2.Inv X pins σ' H' { s' with heap := g2 } := J.landed below fly2.1 ((upS.trans up1).trans up2) eos bare
      obtain ⟨o2, v2, get2, z2, dat2⟩ := fly2.there
      have JS2 := J2.suite get2 dat2 hHa offL offF
      refine store_ok (X := X.suite a ((a, o2) :: (X.pn ++ pins))) (v := .ref a) JS2 hN hi locN rfl (fun s5 J5 => ?_) (.inr hln)
      -- caught = e
      have one : PSs (X.suite a ((a, o2) :: (X.pn ++ pins))) [.Assign [.Name y yp] (.Name n ep) sp] (tAsg (tVar i) (gName j)) :=
        pss_one (ps_set (X := X.suite a ((a, o2) :: (X.pn ++ pins))) hN hj (.inl hly) (pe_var (i := i) hi (.inl hln) hnd hncd) (hsw a _) (.inr hly))
      have hlen : i < σ'.length := by rw [J.len]; exact (List.getElem?_eq_some_iff.mp hi).1
      refine wpAny_mono (one.run [] s5 _ H' { nx := fun σ6 H6 => σ6 = (σ'.set i (some (.ref a))).set j (some (.ref a)) ∧ H6 = H', rt := fun _ _ => False } J5 ⟨.ref a, List.getElem?_set_self hlen, rfl, rfl⟩) (fun fl s6 got => ?_) fun _ _ z => False.elim z
      cases fl with
      | next =>
        obtain ⟨σ6, H6, J6, rfl, rfl⟩ := got
        have held := J6.pin (a, o2) (List.mem_append_left _ List.mem_cons_self)
        have J7 := J6.unsuite okX
        have J8 := track (o := ExT cls d a) J7 held.1 dat2 young0 hHa offL offPins (ext_ok held.1 z2 dat2)
        exact gone_ok J8 hN hi hln fun s9 J9 => ⟨_, _, J9, yes rfl a hHa⟩
      | brk => obtain ⟨_, _, _, z⟩ := got; exact z.elim
      | cont => obtain ⟨_, _, _, z⟩ := got; exact z.elim
      | ret u => obtain ⟨_, _, _, _, _, z⟩ := got; exact z.elim
  refine wpAny_mono ((hb _ (X.pn ++ pins) XE1 caught PassesOwn.looking).run [] s σ H En (I.toTry _) h) (fun fl s1 got => ?_) fun e s1 he => he
  cases fl with
  | next =>
    obtain ⟨σ1, H1, J1, q⟩ := got
    exact wpAny_execs_nil ⟨σ1, H1, J1.ofTry okX, q⟩
  | brk => obtain ⟨σ1, H1, J1, q⟩ := got; exact ⟨σ1, H1, J1.ofTry okX, q⟩
  | cont => obtain ⟨σ1, H1, J1, q⟩ := got; exact ⟨σ1, H1, J1.ofTry okX, q⟩
  | ret u => obtain ⟨v, σ1, H1, J1, r, q⟩ := got; exact ⟨v, σ1, H1, J1.ofTry okX, r, q⟩
end
/-! ### isinstance of a kept exception -/
section
open PySem.W PySem.Calls
variable {prog : Program} {w : World} {A : Around} {E : Value → Shared → Prop} {s : Shared} {K : Frag} {x C : Addr} {oe : Obj} {od : Option Obj}
theorem bound_any {nm : Str} {a g : Value} (h1 : (clsIn K C).isSome = true) (h2 : findIn K (.ref C) nm = some (some a)) (h3 : specialIn K a "__get__" = some (some g)) (h4 : takesIn K a = some true) : findObj K C od nm = some (.bind g a) := by
  obtain ⟨cd, e⟩ := Option.isSome_iff_exists.mp h1
  unfold findObj
  rw [e, Option.bind_some, h2, Option.bind_some]
  simp [h3, h4]
theorem asked_class (T : ExcC K C) (X : K.In s.heap) (I : InstAt s.heap x oe C od) {Q : Option Value → Shared → Prop} (h : Q (some (.ref C)) { s with toks := s.toks + 1 }) : wpAny (model prog w) A (getAttr? (.ref x) "__class__") Q E s := by
  have found : findObj K C od "__class__" = some (.bind (.builtin "getset_descriptor.__get__") (.builtin "object.__class__")) := bound_any (by obtain ⟨cd, hc, _⟩ := any_some T.hd; rw [hc]; rfl) T.ha T.hn T.ht
  obtain ⟨hp, gs, dr, tk, os⟩ := s
  have lty := I.type (M := model prog w)
  have lga := looks_findIn (M := model prog w) X T.hg
  have lgt := looks_findIn (M := model prog w) X T.hk
  have lfo := looks_find (M := model prog w) X I found
  have lis : Looks (model prog w) hp (isInstance (.ref x) (.type "BaseException")) true := lty.andThen (looks_subIn X T.hs)
  have ne1 : (Value.builtin "BaseException.__getattribute__" == Value.builtin "object.__getattribute__") = false := by decide +kernel
  unfold getAttr? getAttrBy? getAttrBy
  refine wpAny_bind (wpAny_mkText (wpAny_bind (wpAny_attempt (wpAny_holding (wpAny_bind (lty.at (wpAny_bind (lga.at ?_))))))))
  show wpAny _ _ (if (onTheHeap (Value.ref C) && Value.builtin "BaseException.__getattribute__" == Value.builtin "object.__getattribute__") = true then _ else _) _ _ _
  rw [ne1, Bool.and_false, if_neg Bool.false_ne_true]
  unfold getAttrByItsOwn hookBefore
  refine wpAny_bind ?_
  rw [if_pos (show onTheHeap (Value.ref C) = true from rfl)]
  refine lgt.at ?_
  refine wpAny_bind (wpAny_attempt (wpAny_holding ?_))
  unfold callGetattribute
  rw [show (false && onTheHeap (Value.builtin "BaseException.__getattribute__")) = false from rfl, if_neg Bool.false_ne_true]
  unfold boundAndCalled
  rw [PySem.F.excAttr_ValueError.ga.bind (.ref x)]
  refine wpAny_bind (wpAny_pure ?_)
  show wpAny _ _ (call (.builtin "BaseException.__getattribute__") [.ref x, .str "__class__" tk]) _ _ _
  refine wpAny_call (codeAny_call_builtin PySem.F.excAttr_ValueError.ga.plain PySem.F.entry_bexc_ga ?_)
  refine @check_slot (model prog w) _ _ ⟨hp, gs, dr, tk + 1, os⟩ "BaseException.__getattribute__" "BaseException" "__getattribute__" (.ref x) [.str "__class__" tk] [] _ (by decide +kernel) (by decide +kernel) lis (PySem.F.args_bexc_ga (.ref x) (.str "__class__" tk)) ?_
  unfold Builtin.«object.__getattribute__»
  refine wpAny_bind (wpAny_of_eq (a := ((Value.ref x : Value), [Value.str "__class__" tk])) (by first | rfl | (simp only [slotArgs]; rfl)) ?_)
  refine wpAny_bind (wpAny_pure (wpAny_bind (lty.at (wpAny_bind (lfo.at ?_)))))
  show wpAny _ _ (holding [Value.builtin "object.__class__"] (call (.builtin "getset_descriptor.__get__") [.builtin "object.__class__", .ref x, .ref C]) >>= ret) _ _ _
  refine wpAny_bind (wpAny_holding (wpAny_call (class_get (s := ⟨hp, gs, dr, tk + 1, os⟩) (ox := oe) (od := od) X I T.hm ?_)))
  refine wpAny_pure ?_
  show wpAny _ _ (handedOut (.ref C)) _ _ _
  rw [handedOut_of (v := .ref C) rfl]
  first
    | exact wpAny_pure (wpAny_pure h)
    | exact wpAny_pure h
    | exact wpAny_pure (wpAny_bind (wpAny_pure (wpAny_pure h)))
theorem kitE (T : ExcC K C) : KitX K (.ref x) (.ref C) (fun h => InstAt h x oe C od) where
  ty := fun _ _ _ I => I.type
  it := fun _ _ X _ => by
    obtain ⟨cd, hc, _⟩ := any_some T.hd
    unfold clsIn at hc
    split at hc
    · rename_i ho
      intro A1 Q1 E1 s1 keep q
      unfold isType loadHead
      exact wpAny_bind (wpAny_loadPart (keep _ _ (X _ _ ho)) (wpAny_pure q))
    · cases hc
  ne := fun h tp dd its n sl X ht => by
    obtain ⟨cd, hc, _⟩ := any_some T.hd
    refine Bool.eq_false_iff.mpr fun q => ?_
    obtain rfl : C = tp := Value.ref.inj (beq_iff_eq.mp q)
    unfold clsIn at hc
    split at hc
    · rename_i ho
      cases (X _ _ ho).symm.trans ht
    · cases hc
  ca := fun X I k => asked_class T X I k
end

/-! ### by data -/
/-- a class as a value: is an exception of the class c one of it? -/
def IsF (K : PySem.W.Frag) (mg : Str → Option Value) (v : Value) (is : Str → Option Bool) : Prop := ∀ c b, is c = some b → ∀ u, mg c = some u → ∃ D, u = .ref D ∧ ExcC K D ∧ PySem.W.kitOne K (.ref D) v = some b
def EmF (K : PySem.W.Frag) (mg : Str → Option Value) (v : Value) (is : Str → Option Bool) : Prop := ∀ c b, is c = some b → ∀ u, mg c = some u → PySem.W.exmOne K u v = some b
def isNo : Str → Option Bool := fun _ => none
def isIf (x : Str) (b : Bool) (is : Str → Option Bool) : Str → Option Bool := fun c => if c = x then some b else is c
section
variable {K : PySem.W.Frag} {mg : Str → Option Value} {v : Value} {x : Str} {b : Bool} {is : Str → Option Bool}
theorem IsF.no : IsF K mg v isNo := fun _ _ q => nomatch q
theorem EmF.no : EmF K mg v isNo := fun _ _ q => nomatch q
theorem IsF.yes {D : Addr} (m : mg x = some (.ref D)) (T : ExcC K D) (k : PySem.W.kitOne K (.ref D) v = some b) (r : IsF K mg v is) : IsF K mg v (isIf x b is) := fun c b' q u hu => by
  unfold isIf at q
  split at q
  · rename_i h; subst h; cases q; rw [m] at hu; cases hu; exact ⟨D, rfl, T, k⟩
  · exact r c b' q u hu
theorem EmF.yes {D : Addr} (m : mg x = some (.ref D)) (k : PySem.W.exmOne K (.ref D) v = some b) (r : EmF K mg v is) : EmF K mg v (isIf x b is) := fun c b' q u hu => by
  unfold isIf at q
  split at q
  · rename_i h; subst h; cases q; rw [m] at hu; cases hu; exact k
  · exact r c b' q u hu
end
def sTry (i j : Nat) (is : Str → Option Bool) (f : DEnv → Out) : DEnv → Out := fun env => match f env with
  | .xc e c n => match is c with
    | some true => .nx ((e.set j (some (.fr (.exo c n)))).set i none)
    | some false => .xc e c n
    | none => .bad
  | o => o
section
variable {X : Cx} {G : Par} {W : WX} {k : Nat} {x n y : Str} {c : Value} {i j : Nat} {body : List Stmt} {np yp ep sp pos pos' : Pos} {f : DEnv → Out} {is : Str → Option Bool} {e : Expr} {es : List Expr} {fa : DEnv → R D}
theorem Sit.tr (hS : Sit X W k) {W' : WX} {pn : List (Addr × Obj)} {xe : Value → Shared → Prop} (t : Takes (X.tr pn xe) W') (p : PassesOwn (model X.prog X.w) X.A X.env xe) : Sit (X.tr pn xe) W' k := ⟨hS.calm, hS.nd, t, hS.room, p⟩
theorem y_try (i j : Nat) (hS : Sit X W k) (hb : ∀ (W' : WX) (pn : List (Addr × Obj)) (xe : Value → Shared → Prop), Sit (X.tr pn xe) W' k → PSs (X.tr pn xe) body (rdS G W' f)) (hc : Names X x c) (T : EmF G.K G.mg c is)
    (hK : X.K = G.K := by rfl) (hs : X.stack = X.env :: X.outer := by rfl) (hf : X.env.frame = some X.env.locals := by rfl) (hex : X.ex = [] := by rfl) (hi : X.N[i]? = some n := by rfl) (hln : X.env.kindOf n = some .local := by rfl) (hj : X.N[j]? = some y := by rfl) (hly : X.env.kindOf y = some .local := by rfl)
    (hij : i ≠ j := by decide) (hnd : (n == ("__debug__" : Str)) = false := by decide) (hncd : (n == ("__classdict__" : Str)) = false := by decide)
    (hsw : ∀ (a : Addr) (pn : List (Addr × Obj)), swapsWith (.Name n ep) (some (.Name y yp)) sp.line (X.suite a pn).env = pure false := by intro _ _; rfl) :
    PS X (.Try body [.ExceptHandler (some (.Name x np)) (some n) [.Assign [.Name y yp] (.Name n ep) sp] pos'] [] [] pos) (rdS G W (sTry i j is f)) := by
  refine ps_mono (try_keep hs hf hex hS.nd hi hln hj hly hnd hncd hc hS.tk hsw fun W' pn xe t p => hb W' pn xe (hS.tr t p)) fun En σ H h => ?_
  obtain ⟨H0, F0, F, env, sr, o⟩ := h
  refine ⟨H0, F0, F, env, sr, ?_⟩
  unfold sTry at o
  cases q : f env with
  | nx e => rw [q] at o; exact o
  | rt d e => rw [q] at o; exact o
  | bk e => rw [q] at o; exact o
  | ct e => rw [q] at o; exact o
  | bad => rw [q] at o; exact o
  | xc e cc m =>
    rw [q] at o
    dsimp only at o
    intro cls dd F' H' σ' s' ex
    cases q2 : is cc with
    | none => rw [q2] at o; exact o.elim
    | some b =>
      rw [q2] at o
      have em := T cc b q2 cls ex.1
      rw [← hK] at em
      refine ⟨b, em, fun hb' => ?_, fun hb' a ha => ?_⟩
      · subst hb'; exact o cls dd F' H' σ' s' ex
      · subst hb'
        have xt := Ext.new (o := ExT cls dd a) s'.fh ha (fun ps z => by unfold ExT at z; cases z)
        have rp : Rep G (upd F' a (ExT cls dd a)) (.ref a) (.exo cc m) := by
          obtain ⟨m1, m2⟩ := ex
          cases m with
          | none => dsimp only at m2; subst m2; exact .ex0 upd_same m1
          | some r =>
            obtain ⟨d, rfl, hd⟩ := m2
            exact .ex1 upd_same m1 (xt.f _ _ hd)
        have s2 := ((s'.ext xt).setD (i := j) rp)
        have s3 := s2.set (i := i) (x := none) (v := none) fun y z => nomatch z
        have e1 : ((σ'.set i (some (.ref a))).set j (some (.ref a))).set i none = (σ'.set j (some (.ref a))).set i none := by
          rw [List.set_comm _ _ hij, List.set_set]
        show En.nx _ _
        rw [e1]
        exact o _ _ _ s3
/-- isinstance(x, C), x None or an exception that was kept -/
def rIsX (K : PySem.W.Frag) : List V → Hp → VK → Prop := fun xs H Q => ∃ (a D : Addr) (d : Option Addr) (t : V) (u : Value) (b : Bool), xs = [.ref a, t] ∧ ClsV t u ∧ H a = some (ExT (.ref D) d a) ∧ (∀ dd, d = some dd → ∃ fs, H dd = some (.xd fs)) ∧ ExcC K D ∧ PySem.W.kitOne K (.ref D) u = some b ∧ Q (.bl b) H
theorem inst_of {pins : List (Addr × Obj)} {σ : L2.St} {H : Hp} {s : Shared} {a D : Addr} {d : Option Addr} (I : L2.Inv X pins σ H s) (h1 : H a = some (ExT (.ref D) d a)) (h2 : ∀ dd, d = some dd → ∃ fs, H dd = some (.xd fs)) : ∃ oe od, PySem.W.InstAt s.heap a oe D od := by
  obtain ⟨⟨oe, vs, g1, ⟨z1, z2⟩, g3⟩, _, _⟩ := (show ObjOk X.prog X.w H s.heap a (ExT (.ref D) d a) from I.hok a _ h1)
  cases d with
  | none => exact ⟨oe, none, g1, z1, by unfold PySem.W.notCls; rw [g3], by rw [z2]; trivial⟩
  | some dd =>
    obtain ⟨fs, h3⟩ := h2 dd rfl
    obtain ⟨mA, hns, _⟩ := (show ObjOk X.prog X.w H s.heap dd (.xd fs) from I.hok dd _ h3)
    obtain ⟨od, ho, _⟩ := L2.lookIn_ns hns
    exact ⟨oe, some od, g1, z1, by unfold PySem.W.notCls; rw [g3], by rw [z2]; exact ho⟩
theorem call_isX : CallR X (.builtin "isinstance") (rIsX X.K) := by
  intro pins s σ H xs us Q I r h
  obtain ⟨a, D, d, t, u, b, rfl, cv, h1, h2, T, kt, q⟩ := h
  obtain ⟨u1, u2, rfl, r1, r2⟩ := vals2 r
  obtain rfl := cv.eq r2
  cases (show u1 = Value.ref a from r1)
  obtain ⟨oe, od, J⟩ := inst_of I h1 h2
  exact PySem.W.kia_one (kitE T) I.kIn J kt (fun z => nomatch z) fun tk => ⟨.bl b, H, I.tok tk, rfl, q⟩
def bX (is : Str → Option Bool) : D → Option D
  | .exo c _ => (is c).map D.bl
  | _ => none
theorem e_isX {p p2 : Pos} {z : Str} {t : V} {u : Value} (he : PE X e (rdE G W fa)) (ht : PE X (.Name z p2) (tC t)) (cv : ClsV t u) (T : IsF G.K G.mg u is) (hm : X.mg "isinstance" = none) (hg : Gl X "isinstance" := by rfl) (hK : X.K = G.K := by rfl)
    (hs : starEach [e, .Name z p2] X.env = (false, eval e X.env) :: starEach [.Name z p2] X.env := by rfl) (hs2 : starEach [.Name z p2] X.env = (false, eval (.Name z p2) X.env) :: starEach [] X.env := by rfl)
    (hpl : (backTo pos (starEach [.Name z p2] X.env)).any (·.1) = false := by rfl) : PE X (.Call (.Name "isinstance" p) [e, .Name z p2] [] pos) (rdE G W (mUn (bX is) fa)) :=
  pe_mono (pe_callB call_isX hg hm PyProof.Rows.boot_isinstance (pa_cons he (pa_cons ht pa_nil hs2) hs) (by decide) (by decide) hs hpl) fun σ H Q ⟨H0, F0, F, env, s, o⟩ => ⟨H0, F0, F, env, s, o.step fun d F1 H1 v s1 f1 h1 r1 o1 => by
    cases d with
    | exo c n =>
      cases q : is c with
      | none =>
        have : bX is (.exo c n) = none := by show (is c).map D.bl = none; rw [q]; rfl
        rw [this] at o1; exact o1.elim
      | some b =>
        have e1 : bX is (.exo c n) = some (.bl b) := by show (is c).map D.bl = _; rw [q]; rfl
        rw [e1] at o1
        have fin := o1 F1 H1 (.bl b) s1 (.refl _) (.refl _) (.bl b)
        cases r1 with
        | ex0 g1 g2 =>
          obtain ⟨D, rfl, TD, kt⟩ := T c b q _ g2
          exact ⟨_, D, none, t, u, b, rfl, cv, s1.fh _ _ g1, (fun _ z => nomatch z), by rw [hK]; exact TD, by rw [hK]; exact kt, fin⟩
        | ex1 g1 g2 g3 =>
          obtain ⟨D, rfl, TD, kt⟩ := T c b q _ g2
          exact ⟨_, D, _, t, u, b, rfl, cv, s1.fh _ _ g1, (fun dd z => by cases z; exact ⟨_, s1.fh _ _ g3⟩), by rw [hK]; exact TD, by rw [hK]; exact kt, fin⟩
    | _ => exact o1.elim⟩
end
end S

set_option Elab.async false
set_option linter.all false
set_option maxRecDepth 100000
set_option maxHeartbeats 4000000
namespace S
open PySem PySem.Spec PyProof.Rows L2

def mixI (c i : Int) : Int :=
  let m := (c % 2147483647 + i) * 48271 % 2147483647
  m * m % 2147483629
section
variable (a1 a2 a3 a4 a5 a6 a7 a8 a9 a10 a11 b1 b2 b3 b4 b5 b6 : Pos) (k1 k2 k3 k4 : Nat)
def mixB : List Stmt := [.Assign [.Name "mixed" a1] (.BinOp (.BinOp (.BinOp (.BinOp (.Name "cell" a2) .Mod (.Constant (.int 2147483647) k1 a3) a4) .Add (.Name "salt" a5) a6) .Mult (.Constant (.int 48271) k2 a7) a8) .Mod (.Constant (.int 2147483647) k3 a9) a10) a11,
  .Return (some (.BinOp (.BinOp (.Name "mixed" b1) .Mult (.Name "mixed" b2) b3) .Mod (.Constant (.int 2147483629) k4 b4) b5)) b6]
end
/-- what is asked of the text of _law_mixed -/
structure MixT (K : PySem.W.Frag) (fm : Addr) (qual : Str) : Prop where
  fn : ∃ (oc : Value) (od an : Option Addr) (dV kV doc pm cdv ct : Value) (osl : Array (Option Value)) (params : Arguments) (sc : Scope) (a1 a2 a3 a4 a5 a6 a7 a8 a9 a10 a11 b1 b2 b3 b4 b5 b6 : Pos) (k1 k2 k3 k4 : Nat),
    K.lookup fm = some ⟨oc, od, .func (PySem.W.fnOf qual qual params (mixB a1 a2 a3 a4 a5 a6 a7 a8 a9 a10 a11 b1 b2 b3 b4 b5 b6 k1 k2 k3 k4) sc dV kV doc pm an cdv ct), osl⟩ ∧ PySem.W.codeIn K cdv qual = true ∧
    (∀ (s : Shared) (u v : Value), BindsTo s (PySem.W.fnOf qual qual params (mixB a1 a2 a3 a4 a5 a6 a7 a8 a9 a10 a11 b1 b2 b3 b4 b5 b6 k1 k2 k3 k4) sc dV kV doc pm an cdv ct) ⟨[u, v], []⟩ [("cell", u), ("salt", v)]) ∧
    sc.names.lookup ("cell" : Str) = some .local ∧ sc.names.lookup ("salt" : Str) = some .local ∧ sc.names.lookup ("mixed" : Str) = some .local ∧ sc.isCoroutine = false ∧ sc.isGenerator = false ∧ sc.kind = .function
section
variable {prog : Program} {w : World} {A : Around} {E : Value → Shared → Prop} {s : Shared} {K : PySem.W.Frag} {fm : Addr} {qual : Str}
theorem mod_pos {A : Around} {s : Shared} {a b : Int} {t u : Tok} {Q : Value → Shared → Prop} (hb : 0 < b) (h : Q (.int (a % b) s.toks) { s with toks := s.toks + 1 }) : wpAny (model prog w) A (binaryOp .Mod (.int a t) (.int b u)) Q E s :=
  mod_int' (by omega) (by rw [Int.fmod_eq_emod_of_nonneg _ (by omega)]; exact h)
theorem mixed_run (T : MixT K fm qual) (X : K.In s.heap) (lim : s.heap.NoLimit) (room : A.depth < recursionLimit) {c i : Int} {t u : Tok} {R : Result → Shared → Prop}
    (hR : ∀ h' tk t', (∀ b o, s.heap.get? b = some o → h'.get? b = some o) → R (.ok (.ret (.int (mixI c i) t'))) { s with heap := h', toks := tk }) :
    codeAny (model prog w) A (.call (.ref fm) ⟨[.int c t, .int i u], []⟩) R s := by
  obtain ⟨oc, od, an, dV, kV, doc, pm, cdv, ct, osl, params, sc, a1, a2, a3, a4, a5, a6, a7, a8, a9, a10, a11, b1, b2, b3, b4, b5, b6, k1, k2, k3, k4, lk, cd, bd, lc, ls, lm, co, gen, kind⟩ := T.fn
  refine Att.call_fn X lim lk cd room (bd s _ _) (by simp [lc, ls]) (fun s₁ IC => ?_) co gen kind
  obtain ⟨h₁, tk₁, rfl⟩ := IC.toInCall.same
  have keep : ∀ b o, s.heap.get? b = some o → h₁.get? b = some o := IC.toInCall.keep
  have hn := IC.toInCall.ns
  have kc : (envOfC qual sc s.heap.objs.size fm cdv).kindOf "cell" = some .local := lc
  have ks : (envOfC qual sc s.heap.objs.size fm cdv).kindOf "salt" = some .local := ls
  have km : (envOfC qual sc s.heap.objs.size fm cdv).kindOf "mixed" = some .local := lm
  have n1 : ¬ (("cell" : Str) = "salt") := by decide +kernel
  have n2 : ¬ (("mixed" : Str) = "salt") := by decide +kernel
  have vc : bindL (envOfC qual sc s.heap.objs.size fm cdv).kindOf [("cell", .int c t), ("salt", .int i u)] (fun _ => none) "cell" = some (.int c t) := by
    simp only [bindL, kc, ks, if_true, if_neg n1]
  have vs : bindL (envOfC qual sc s.heap.objs.size fm cdv).kindOf [("cell", .int c t), ("salt", .int i u)] (fun _ => none) "salt" = some (.int i u) := by
    simp only [bindL, kc, ks, if_true]
  generalize bindL (envOfC qual sc s.heap.objs.size fm cdv).kindOf [("cell", .int c t), ("salt", .int i u)] (fun _ => none) = m at hn vc vs
  unfold mixB
  refine wpAny_execs_cons (wpAny_Assign_Name ?_)
  refine wpAny_BinOp (wpAny_BinOp (wpAny_BinOp (wpAny_BinOp (wpAny_Name (wpAny_loadName_local kind kc hn vc (wpAny_Constant_int (mod_pos (by decide) ?_)))))))
  refine wpAny_Name (wpAny_loadName_local kind ks hn vs (add_int ?_))
  refine wpAny_Constant_int (mul_int ?_ (CMul.ok (.inr ⟨by decide, by decide⟩)))
  refine wpAny_Constant_int (mod_pos (by decide) ?_)
  refine wpAny_storeName_local km hn (fun h₂ hn₂ sb => ?_) (by show (sc.kind == .class || (sc.kind == .module && _)) = false; rw [kind]; rfl)
  have hmix : ∀ mx : Value, (fun x => if x = ("mixed" : Str) then some mx else m x) "mixed" = some mx := fun _ => if_pos rfl
  show wpAny _ _ (execs _ _) _ _ _
  refine wpAny_execs_cons (wpAny_Return_some ?_)
  refine wpAny_BinOp (wpAny_BinOp (wpAny_Name (wpAny_loadName_local kind km hn₂ (hmix _) (wpAny_Name (wpAny_loadName_local kind km hn₂ (hmix _) (mul_int ?_ (CMul.ok ?_)))))))
  · refine wpAny_Constant_int (mod_pos (by decide) ?_)
    exact hR _ _ _ fun b o e => sb.extBut b o (Nat.ne_of_lt (Heap.lt_size e)) (keep b o e)
  · have := Int.emod_nonneg ((c % 2147483647 + i) * 48271) (show (2147483647 : Int) ≠ 0 by decide)
    have := Int.emod_lt_of_pos ((c % 2147483647 + i) * 48271) (show (0 : Int) < 2147483647 by decide)
    exact .inl ⟨by omega, by omega⟩
/-- the lambda's text -/
def lamB (p1 p2 p3 p4 : Pos) : Expr := .Call (.Name "_law_mixed" p1) [.Name "cell" p2, .Name "place" p3] [] p4
structure LamT (params : Arguments) (body : Expr) (sc : Scope) : Prop where
  bodyIs : ∃ p1 p2 p3 p4, body = lamB p1 p2 p3 p4
  bind : ∀ (q : Str) (cl : List (Str × Addr)) (pm cv ctv v : Value), bindArgs (PySem.W.kla_fn "<lambda>" q params body sc cl pm cv ctv) ⟨[v], []⟩ = pure [(("place" : Str), v)]
  kind : sc.kind = .function
  co : sc.isCoroutine = false
  gen : sc.isGenerator = false
  nocell : ∀ y ∈ sc.names, y.2 ≠ .cell
  pl : sc.names.lookup ("place" : Str) = some .local
  fr : sc.names.lookup ("cell" : Str) = some .free
  gl : sc.names.lookup ("_law_mixed" : Str) = some .globalImplicit
  only : ∀ y ∈ sc.names, y.2 = .free → y.1 = "cell"
theorem lam_key {mg : Str → Option Value} {base : Heap} {params : Arguments} {body : Expr} {sc : Scope} {f c' cc : Addr} {q : Str} {cl : List (Str × Addr)} {pm ctv : Value} {c i : Int} {tc ti : Tok} (M : Mod K mg base) (kp : ∀ b o, base.get? b = some o → s.heap.get? b = some o)
    (T : MixT K fm "_law_mixed") (hm : mg "_law_mixed" = some (.ref fm)) (hk : PySem.W.keepIn K (.ref fm) = true) (L : LamT params body sc) (ho : s.heap.get? f = some (PySem.W.kla_obj "<lambda>" q params body sc cl pm c' ctv)) (hc : s.heap.CodeRec (.ref c') q)
    (hcl : cl.lookup ("cell" : Str) = some cc) (hcell : s.heap.IsCell cc (some (.int c tc))) (room : A.depth + 5 < recursionLimit) :
    wpAny (model prog w) A (call (.ref f) [.int i ti]) (PySem.W.KeyPure (.int (mixI c i)) s) E s := by
  obtain ⟨p1, p2, p3, p4, rfl⟩ := L.bodyIs
  have lim : s.heap.NoLimit := M.nolimit.keeps kp
  refine wpAny_call ?_
  refine PySem.W.kla_callFunE (by omega) ho rfl L.co L.gen rfl hc ?_
  rw [L.bind]
  refine wpAny_pure (wpAny_newFunctionEnv L.nocell (fun y hy => ?_) (fun h₁ hns hsb => ⟨lim.fresh _ hsb, ?_⟩) L.kind)
  · obtain rfl := List.mem_singleton.mp hy
    exact L.pl
  have keep : ∀ b o, s.heap.get? b = some o → h₁.get? b = some o := fun b o e => hsb.extBut b o (Nat.ne_of_lt (Heap.lt_size e)) (Heap.get?_push_of_some _ e)
  show codeAny _ _ (.expr (lamB p1 p2 p3 p4) (PySem.W.envX q sc s.heap.objs.size f (.ref c') cl)) _ _
  have KX : K.In h₁ := M.kin.keeps fun b o e => keep b o (kp b o e)
  refine PySem.W.kla_codeExpr ?_
  unfold lamB
  refine wpAny_Call_Name_kw (Calls.Name_function_global L.kind L.gl (Calls.loadGlobal_global (M.glob.keeps fun b o e => keep b o (kp b o e)) hm ?_) (by decide))
  refine PySem.W.callWith_K (h₀ := base) M.kin hk (args_cons ?_)
  have hcell' : h₁.IsCell cc (some (.int c tc)) := by
    obtain ⟨o, e1, e2⟩ := hcell
    exact ⟨o, keep _ _ e1, e2⟩
  refine wpAny_Name (wpAny_loadName_free L.kind L.fr hcl hcell' (args_cons ?_))
  refine wpAny_Name (wpAny_loadName_local L.kind L.pl hns rfl (args_nil ⟨KX, ?_⟩))
  refine wpAny_call (mixed_run T KX (lim.fresh _ hsb) (by show A.depth + 1 < _; omega) fun h' tk t' k' => ?_)
  exact ⟨h', tk, rfl, fun b o e => k' b o (keep b o e), .int _ _⟩
end
/-! ### sorted(range(n), key=f) -/
def rgI (n : Nat) : List Int := (List.range n).map fun i : Nat => (i : Int)
def sortBy (k : Int → Int) (ns : List Int) : List Int := ns.mergeSort fun a b => decide (k a ≤ k b)
section
open PySem.W
variable {prog : Program} {w : World} {A : Around} {E : Value → Shared → Prop} {s : Shared}
theorem each_items {acc : Array Value} {n : Nat} (h : ItemsOf (fun i v => ∃ t, v = Value.int (0 + (i : Int) * 1) t) acc n) : EachIs (fun (v : Value) (x : Int) => ∃ t, v = Value.int x t) acc.toList (rgI n) := by
  obtain ⟨h1, h2⟩ := h
  have go : ∀ (us : List Value) (m : Nat), (∀ j v, us[j]? = some v → ∃ t, v = Value.int ((m + j : Nat) : Int) t) → EachIs (fun (v : Value) (x : Int) => ∃ t, v = Value.int x t) us ((List.range' m us.length).map fun i : Nat => (i : Int)) := by
    intro us
    induction us with
    | nil => intro m _; exact .nil
    | cons u us ih =>
      intro m hh
      rw [List.length_cons, List.range'_succ, List.map_cons]
      refine .cons (by simpa using hh 0 u rfl) (ih (m + 1) fun j v e => ?_)
      obtain ⟨t, e2⟩ := hh (j + 1) v (by simpa using e)
      exact ⟨t, by rw [e2]; congr 2; omega⟩
  have := go acc.toList 0 fun j v e => by
    obtain ⟨t, e2⟩ := h2 j v (by rw [← Array.getElem?_toList]; exact e)
    exact ⟨t, by rw [e2]; congr 1; simp⟩
  unfold rgI
  rw [List.range_eq_range']
  rw [Array.length_toList, h1] at this
  exact this
theorem ints_of_each : ∀ {out : List Value} {ns : List Int}, EachIs (fun (v : Value) (x : Int) => ∃ t, v = Value.int x t) out ns → Vals (ns.map V.int) out
  | _, _, .nil => .nil
  | _, _, .cons ⟨t, e⟩ r => .cons ⟨t, e⟩ (ints_of_each r)
theorem sorted_rng {r fl : Addr} {n : Nat} {t u v : Tok} (hh : A.handled = none) (hr : IsRange s.heap r 0 n 1 t u v) (hn : n ≤ 1000000) (hu : A.units + 3 < cLine) (k : Int → Int) {Q : Value → Shared → Prop}
    (turn : ∀ (i : Int) (ti : Tok) (h : Heap) (tk : Nat), (∀ b o, s.heap.get? b = some o → h.get? b = some o) →
      wpAny (model prog w) A.in1.in1 (call (.ref fl) [.int i ti]) (KeyPure (.int (k i)) { s with heap := h, toks := tk }) (fun _ _ => False) { s with heap := h, toks := tk })
    (h : ∀ D out c h' tk, (∀ b o, s.heap.get? b = some o → h'.get? b = some o) → s.heap.get? D = none → h'.get? D = some (seqObj "list" (List.toArray out) c) → Vals ((sortBy k (rgI n)).map V.int) out → Q (.ref D) { s with heap := h', toks := tk }) :
    wpAny (model prog w) A (call (.builtin "sorted") [.ref r] [(Str.ofString "key", .ref fl)]) Q E s := by
  refine call_function_entry_kw kind_sorted plain_sorted entry_sorted (ksk_s1 _ _) ?_
  unfold Builtin.«sorted»
  refine wpAny_bind (m := checkCount "sorted" 1 1 _) (wpAny_pure ?_)
  refine wpAny_bind (L2.collect_range (n := n) (show A.in1.handled = none from hh) hr (small_one (by decide) (by decide) (by omega) (by omega)) (by rw [rangeSize_one]; split <;> omega) (by omega) fun h1 tk1 acc k1 it1 => ?_)
  have e1 := each_items it1
  have el : acc.toList.length = n := by rw [Array.length_toList]; exact it1.1
  refine wpAny_bind (wpAny_newList ?_ (by rw [el]; exact le_line hn))
  have at1 : (h1.push (seqObj "list" acc.toList.toArray 0)).get? h1.objs.size = some (seqObj "list" acc.toList.toArray 0) := Heap.get?_push_size _ rfl
  have old : ∀ b o, s.heap.get? b = some o → b ≠ h1.objs.size ∧ (h1.push (seqObj "list" acc.toList.toArray 0)).get? b = some o := fun b o q =>
    ⟨Nat.ne_of_lt (Heap.lt_size (k1 b o q)), Heap.get?_push_of_some _ (k1 b o q)⟩
  show wpAny _ _ _ _ _ { s with heap := h1.push (seqObj "list" acc.toList.toArray 0), toks := tk1 }
  refine wpAny_bind (wpAny_holding (wpAny_call_entry_kw slot_list_sort ⟨_, at1, rfl⟩ entry_list_sort ?_ (ksk_l1 _ _)))
  rw [ksk_t1]
  have al : AllAlike ((rgI n).map fun x => PyData.int (k x)) := fun d hd d' hd' => by
    obtain ⟨x, _, rfl⟩ := List.mem_map.mp hd
    obtain ⟨y, _, rfl⟩ := List.mem_map.mp hd'
    rfl
  have so : Sortable ((rgI n).map fun x => PyData.int (k x)) := .inr fun d hd => by
    obtain ⟨x, _, rfl⟩ := List.mem_map.mp hd
    exact ⟨nofun, fun _ => nofun⟩
  have rl : (rgI n).length = n := by unfold rgI; simp
  refine wpAny_mono (keyH_tree (A := A.in1.in1) (b := false) (kz := (rgI n).map fun x => PyData.int (k x)) (P := fun fin s' => fin = .done (.ret .none) ∧ Q (.ref h1.objs.size) s') (E := fun _ _ => False) (s := { s with heap := h1.push (seqObj "list" acc.toList.toArray 0), toks := tk1 }) at1 (by rw [List.length_map, rl, el]) (by rw [el]; exact le_line hn) al so (fun d hd => ?_)
    (keyH_turns (s := { s with heap := h1.push (seqObj "list" acc.toList.toArray 0), toks := tk1 }) e1 fun v x hx hm hp tk kb => ?_) fun h' tk out c kb at2 ko => ⟨rfl, ?_⟩) (fun fin s' hf => ?_) fun _ _ z => z.elim
  · obtain ⟨x, _, rfl⟩ := List.mem_map.mp hd
    show A.units + 2 + 0 < cLine
    omega
  · obtain ⟨ti, rfl⟩ := hx
    exact turn x ti hp tk fun b o e => kb b o (old b o e).1 (old b o e).2
  · have eo := keyedOut_each (fun x : Int => PyData.int (k x)) ko e1
    rw [PySem.W.dataLe_int] at eo
    exact h _ out c h' tk (fun b o e => kb b o (old b o e).1 (old b o e).2) (by
      cases q : s.heap.get? h1.objs.size with
      | none => rfl
      | some o => exact absurd (Heap.lt_size (k1 _ _ q)) (Nat.lt_irrefl _)) at2 (ints_of_each eo)
  · obtain ⟨rfl, hq⟩ := hf
    exact ⟨_, rfl, wpAny_pure ⟨_, rfl, hq⟩⟩
end
section
open LamX NdefX
variable {X : Cx} {pins : List (Addr × Obj)} {σ : L2.St} {H : Hp} {s : Shared}
/-- one more thing that stays as it is -/
theorem pinned {r : Addr} {o : Obj} (I : L2.Inv X pins σ H s) (g : s.heap.get? r = some o) (n : H r = none) (h1 : r ≠ X.env.locals) (h2 : r ∉ X.fs) (h3 : ∀ v, o.data ≠ .cell v) : L2.Inv X (pins ++ [(r, o)]) σ H s :=
  ⟨I.ok, I.os, I.bare, I.base, I.loc, I.cell, I.free, I.freeC, fun p hp => by
    rw [← List.append_assoc] at hp
    rcases List.mem_append.mp hp with hp | hp
    · exact I.pin p hp
    · obtain rfl := List.mem_singleton.mp hp; exact ⟨g, n, h1, h2, h3⟩, I.hok, I.len⟩
theorem unpin {ps : List (Addr × Obj)} (I : L2.Inv X (pins ++ ps) σ H s) : L2.Inv X pins σ H s :=
  ⟨I.ok, I.os, I.bare, I.base, I.loc, I.cell, I.free, I.freeC, fun p hp => I.pin p (by rw [← List.append_assoc]; exact List.mem_append_left _ hp), I.hok, I.len⟩
/-- sorted(range(a), key=lambda place: _law_mixed(cell, place)): the table of code objects turns, else a new list is laid; j is cell's slot -/
def tSortLam (T : List (Addr × Str)) (j : Nat) (te : TE) : TE := fun σ H Q => te σ H fun x H1 => ∃ (n : Nat) (c : Int), x = .int (n : Int) ∧ n ≤ 1000000 ∧ σ[j]? = some (some (.int c)) ∧ Tabs T H1 ∧
  ∀ H2 D, ExtN H1 H2 → Tabs T H2 → H2 D = none → Q (.ref D) (upd H2 D (.lst ((sortBy (mixI c) (rgI n)).map V.int)))
theorem pe_sortLam {T : List (Addr × Str)} {c P fm : Addr} {j : Nat} {a : Expr} {te : TE} {params : Arguments} {body : Expr} {sc : Scope} {p p2 p3 lp kp pos : Pos} {k : Nat} (hcalm : X.calm = true) (hr : Room k X.A) (TB : TabB X.base X.mg c P) (hcode : X.env.code = .ref c) (hmT : (P, X.env.qual ++ "<lambda>") ∈ T) (hu : ∀ p ∈ T, p.1 = P → p.2 = X.env.qual ++ "<lambda>")
    (hg1 : Gl X "sorted") (hm1 : X.mg "sorted" = none) (hg2 : Gl X "range") (hm2 : X.mg "range" = none) (ha : PE X a te) (M : MixT X.K fm "_law_mixed") (hm : X.mg "_law_mixed" = some (.ref fm)) (hk : PySem.W.keepIn X.K (.ref fm) = true) (L : LamT params body sc)
    (hdef : defaultsOf params X.env = ([], [])) (hj : X.N[j]? = some "cell") (hcl : X.env.scope.names.lookup ("cell" : Str) = some .cell)
    (na : starEach [a] X.env = (false, eval a X.env) :: starEach [] X.env := by rfl) (he : backTo pos (starEach [.Call (.Name "range" p2) [a] [] p3] X.env) = (false, eval (.Call (.Name "range" p2) [a] [] p3) X.env) :: backTo pos (starEach [] X.env) := by rfl)
    (hpl : (backTo pos (starEach [.Call (.Name "range" p2) [a] [] p3] X.env)).any (·.1) = false := by rfl)
    (hall : (backToKw pos (keywordEach [⟨some "key", .Lambda params body sc lp, kp⟩] X.env)).all (·.1.isSome) = true := by rfl) (hnone : (backToKw pos (keywordEach [⟨some "key", .Lambda params body sc lp, kp⟩] X.env)).any (·.1.isNone) = false := by rfl)
    (hks : (backToKw pos (keywordEach [⟨some "key", .Lambda params body sc lp, kp⟩] X.env)).filterMap (·.1) = [("key" : Str)] := by rfl) :
    PE X (.Call (.Name "sorted" p) [.Call (.Name "range" p2) [a] [] p3] [⟨some "key", .Lambda params body sc lp, kp⟩] pos) (tSortLam T j te) := by
  refine ⟨fun pins s σ H Q I h => ?_⟩
  refine wpAny_Call_Name_kw (ld_blt I hg1 hm1 PyProof.Rows.boot_sorted ?_ (by decide) (by decide))
  refine PyProof.Rows.callWith_kw ?_ he hpl hall hnone
  rw [he]
  refine Calls.spliced_cons ?_
  refine Call_ (ld_blt I hg2 hm2 PyProof.Rows.boot_range (PyProof.Rows.callWith_type1 (one_arg ha I h (fun v s1 x H1 I1 rv q => ?_) na) na) (by decide) (by decide))
  obtain ⟨n, cv, rfl, hn, hcell, hT, q⟩ := q
  obtain ⟨tn, rfl⟩ := rv
  refine call_range_1 ?_
  refine Calls.spliced_nil ?_
  -- the range stays as it is
  have I2 : L2.Inv X pins σ H1 { s1 with heap := s1.heap.push { cls := .type "range", data := .fields #[.int 0 s1.toks, .int (n : Int) tn, .int 1 (s1.toks + 1)] }, toks := s1.toks + 1 + 1 } := I1.kept fun b o e => Heap.get?_push_of_some _ e
  have rg : IsRange (s1.heap.push { cls := .type "range", data := .fields #[.int 0 s1.toks, .int (n : Int) tn, .int 1 (s1.toks + 1)] }) s1.heap.objs.size 0 (n : Int) 1 s1.toks tn (s1.toks + 1) := IsRange.new ..
  have fpo := I1.fpOk (b := s1.heap.objs.size) (Nat.le_refl _) (I1.hok.fresh (Nat.le_refl _))
  have I3 := pinned I2 rg fpo.1 fpo.2.1 fpo.2.2.1 (fun v z => by
    have z' : Data.fields _ = Data.cell v := z
    cases z')
  have hfree : ∀ y ∈ sc.names, y.2 = .free → X.env.scope.names.lookup y.1 = some .cell ∨ X.env.scope.names.lookup y.1 = some .free := fun y hy e => by
    rw [L.only y hy e]; exact .inl hcl
  have hfree2 : ∀ y ∈ sc.names, y.2 = .free → ∃ c, X.env.cells.lookup y.1 = some c := fun y hy e => (hfree y hy e).elim (fun z => I.ok.has _ (.inl z)) fun z => I.ok.has _ (.inr z)
  show wpAny _ _ (evalAll ((do let v ← eval (.Lambda params body sc lp) X.env; standAt pos; pure v) :: (backToKw pos (keywordEach [] X.env)).map (·.2))) _ _ _
  refine wpAny_evalAll_cons (wpAny_bind (lam_make2 I3 TB hcode hmT hu hT hdef hfree2 fun f c' pm ctv H2 s4 I4 eN T2 hf hfn hfr hco => wpAny_bind (wpAny_standAt (wpAny_pure (wpAny_evalAll_nil ?_)))))
  rw [hks]
  show wpAny _ _ (call (.builtin "sorted") [.ref s1.heap.objs.size] [(("key" : Str), .ref f)]) _ _ _
  have rg4 := (I4.pin (s1.heap.objs.size, _) (List.mem_append_right _ (List.mem_append_right _ (List.mem_singleton.mpr rfl)))).1
  have caps : Caps X (cloFrom X.env.cells sc.names []) ["cell"] [j] := Caps.made I.ok hfree (fun y hy => by obtain rfl := List.mem_singleton.mp hy; exact PySem.mem_of_lookup L.fr) (by rw [List.map_cons, hj]; rfl)
  have CA := cells_of I4 caps
  obtain ⟨cc, hcc, hcv⟩ := CA.has 0 "cell" rfl
  obtain ⟨u, ru, hcu⟩ := hcv (.int cv) (by show some (slotAt σ j) = _; rw [slotAt_of hcell])
  obtain ⟨tc, rfl⟩ := ru
  have hcr : s4.heap.CodeRec (.ref c') (X.env.qual ++ "<lambda>") := codeO_at I4.hok hco
  have room := hr.dp
  have un := hr.un
  refine sorted_rng (I.ok.hd hcalm) rg4 hn (by omega) (mixI cv) (fun i ti hp tk kk => ?_) fun D out ep hp tk kk hD hat hv => ?_
  · have hcr' : hp.CodeRec (.ref c') (X.env.qual ++ "<lambda>") := by
      obtain ⟨c1, o1, v1, t1, e0, e1, e2, e3⟩ := hcr
      exact ⟨c1, o1, v1, t1, e0, kk _ _ e1, e2, e3⟩
    have hcu' : hp.IsCell cc (some (.int cv tc)) := by
      obtain ⟨o, e1, e2⟩ := hcu
      exact ⟨o, kk _ _ e1, e2⟩
    refine lam_key (s := { s4 with heap := hp, toks := tk }) I4.mod (fun b o e => kk _ _ (I4.bk b o e)) M hm hk L (kk _ _ hf) hcr' hcc hcu' ?_
    show X.A.depth + 5 < _
    omega
  · have nD : H2 D = none := HOk.gone I4.hok hD
    have hlen : ((sortBy (mixI cv) (rgI n)).map V.int).length ≤ sizeLine := by
      rw [List.length_map]
      unfold sortBy
      rw [List.length_mergeSort]
      unfold rgI
      rw [List.length_map, List.length_range]
      exact le_line hn
    have J := Inv.laidN (t' := tk) I4 kk hD nD (o := .lst ((sortBy (mixI cv) (rgI n)).map V.int)) ⟨hlen, out, ep, hv, hat⟩
    exact ⟨.ref D, _, unpin J, rfl, q H2 D eN T2 nD⟩
end
end S

set_option Elab.async false
set_option linter.all false
set_option maxRecDepth 100000
set_option maxHeartbeats 4000000
namespace S
open PySem PySem.Spec PyProof.Rows L2 LamX

/-- the tables stand in H0, not in F0 -/
def XT (T : List (Addr × Str)) (H0 F0 : Hp) : Prop := Tabs T H0 ∧ ∀ p ∈ T, F0 p.1 = none
def OkX (G : Par) (T : List (Addr × Str)) (FB : Hp) (o : Out) (En : Ends) : Prop := match o with
  | .nx e => ∀ H0 F0 F' H' σ', SR G H0 F0 F' H' σ' e → XT T H0 F0 → Same FB F0 → En.nx σ' H'
  | .bk e => ∀ H0 F0 F' H' σ', SR G H0 F0 F' H' σ' e → XT T H0 F0 → Same FB F0 → En.bk σ' H'
  | .ct e => ∀ H0 F0 F' H' σ', SR G H0 F0 F' H' σ' e → XT T H0 F0 → Same FB F0 → En.ct σ' H'
  | .rt d e => ∀ F' H' v, Rep G F' v d → En.rt v H'
  | .xc _ _ _ => False
  | .bad => False
def rdX (G : Par) (T : List (Addr × Str)) (f : DEnv → Out) : TS := fun En σ H => ∃ FB H0 F0 F env, SR G H0 F0 F H σ env ∧ XT T H0 F0 ∧ Same FB F0 ∧ OkX G T FB (f env) En
section
variable {X : Cx} {G : Par} {W : WX} {k : Nat} {T : List (Addr × Str)} {st : Stmt} {sts rest body : List Stmt} {tg iter : Expr} {pos : Pos} {f g : DEnv → Out}
theorem OkX.mono {FB FC : Hp} {o : Out} {En : Ends} (e : Same FB FC) (h : OkX G T FB o En) : OkX G T FC o En := by
  cases o with
  | nx v => exact fun H0 F0 F' H' σ' s t x => h H0 F0 F' H' σ' s t (e.trans x)
  | bk v => exact fun H0 F0 F' H' σ' s t x => h H0 F0 F' H' σ' s t (e.trans x)
  | ct v => exact fun H0 F0 F' H' σ' s t x => h H0 F0 F' H' σ' s t (e.trans x)
  | rt d v => exact h
  | xc a b c => exact h
  | bad => exact h
theorem xx_lift (h : PS X st (rdS G W f)) : PS X st (rdX G T f) := ps_mono h fun En σ H ⟨FB, H0, F0, F, env, s, t, x, o⟩ => ⟨H0, F0, F, env, s, by
  generalize f env = r at o
  cases r with
  | nx v => exact fun F' H' σ' s' => o H0 F0 F' H' σ' s' t x
  | bk v => exact fun F' H' σ' s' => o H0 F0 F' H' σ' s' t x
  | ct v => exact fun F' H' σ' s' => o H0 F0 F' H' σ' s' t x
  | rt d v => exact fun F' H' σ' w s' r => o F' H' w r
  | xc a b c => exact o.elim
  | bad => exact o.elim⟩
theorem xx_one (h : PS X st (rdX G T f)) : PSs X [st] (rdX G T f) := pss_one h
theorem xx_cons (h1 : PS X st (rdX G T f)) (h2 : PSs X rest (rdX G T g)) : PSs X (st :: rest) (rdX G T (sSeq f g)) :=
  pss_mono (pss_cons h1 h2) fun En σ H ⟨FB, H0, F0, F, env, s, t, x, o⟩ => ⟨FB, H0, F0, F, env, s, t, x, by
    unfold sSeq at o
    generalize f env = r at o
    cases r with
    | nx v => exact fun H0 F0 F' H' σ' s t x => ⟨FB, H0, F0, F', v, s, t, x, o⟩
    | bk v => exact o
    | ct v => exact o
    | rt d v => exact o
    | xc a b c => exact o
    | bad => exact o⟩
theorem xx_frz (i : Nat) (h : PS X st (rdX G T f)) : PS X st (rdX G T (sPre (gFrz i) f)) := ps_mono h fun En σ H ⟨FB, H0, F0, F, env, s, t, x, o⟩ => by
  obtain ⟨F1, s1, _⟩ := s.frz i
  exact ⟨FB, H0, F0, F1, _, s1, t, x, o⟩
theorem XT.rebase {H0 F0 F H : Hp} {σ : L2.St} {env : DEnv} (s : SR G H0 F0 F H σ env) (t : XT T H0 F0) : XT T H0 F := ⟨t.1, fun p hp => by
  obtain ⟨ps, h1, _⟩ := t.1 p hp
  rw [s.fn p.1 (by rw [h1]; exact nofun)]
  exact t.2 p hp⟩
theorem xx_for {fi : DEnv → R (List D)} {ft : D → DEnv → Option DEnv} {own : List Nat} (hS : Sit X W k) (hi : PI X tg iter (rdI G W fi)) (hg : PG X tg (rdG G own ft)) (hb : PSs X body (rdX G T f)) (hs : ∀ x, foldedSetIterable iter X.env x = pure x := by intro _; rfl) :
    PS X (.For tg iter body [] pos) (rdX G T (sFor fi ft f)) := by
  refine ps_mono (ps_for hS.own hS.calm hi hg hb hs) fun En σ H ⟨FB, H0, F0, F, env, s, t, x, o⟩ => ⟨H0, F0, F, env, s, ?_⟩
  unfold sFor at o
  cases q : fi env with
  | exc c n => rw [q] at o; exact o.elim
  | bad => rw [q] at o; exact o
  | ok ds =>
    rw [q] at o
    intro F1 H1 J s1 f1 h1 wk
    have ob : OkX G T F1 (loopFor ft f ds env) En := OkX.mono (x.trans s1.f0) o
    refine ⟨fun i m σ' H' => m = ds.length - i ∧ ∃ H0 F0 F' env', SR G H0 F0 F' H' σ' env' ∧ XT T H0 F0 ∧ Same F1 F0 ∧ OkX G T F1 (loopFor ft f (ds.drop i) env') En, ⟨ds.length, rfl, H0, F1, F1, env, s1.rebase, XT.rebase s1 t, .refl _, ob⟩, ?_⟩
    rintro i m σ' H' ⟨rfl, H0, F0, F', env', s', t', x', o'⟩
    obtain ⟨w1, w2⟩ := wk i F' H' (x'.trans s'.f0) s'.fh
    cases q2 : ds[i]? with
    | none =>
      have hl : ds.length ≤ i := List.getElem?_eq_none_iff.mp q2
      rw [List.drop_eq_nil_of_le hl] at o'
      exact .inl ⟨w2 hl, o' H0 F0 F' H' σ' s' t' x'⟩
    | some d =>
      obtain ⟨hlt, _⟩ := List.getElem?_eq_some_iff.mp q2
      obtain ⟨go, yl⟩ := w1 d q2
      rw [drop_cons q2] at o'
      unfold loopFor at o'
      refine .inr ⟨go, fun σ2 H2 => ∃ H0 F0 F2 env2, SR G H0 F0 F2 H2 σ2 env2 ∧ XT T H0 F0 ∧ Same F1 F0 ∧ OkX G T F1 (loopFor ft f (ds.drop (i + 1)) env2) En, fun σ2 H2 h2 => ⟨ds.length - (i + 1), by omega, rfl, h2⟩, fun xv H2 y => ?_⟩
      obtain ⟨F2, ex, r2⟩ := yl xv H2 y
      refine ⟨H0, F0, F2, env', d, s'.ext ex, r2, ?_⟩
      cases q3 : ft d env' with
      | none => rw [q3] at o'; exact o'.elim
      | some e1 =>
        rw [q3] at o'
        dsimp only at o'
        intro σ3 s3 _
        refine ⟨F1, H0, F0, F2, e1, s3, t', x', ?_⟩
        cases q4 : f e1 with
        | nx e => rw [q4] at o'; exact fun H0 F0 F4 H4 σ4 s4 t4 x4 => ⟨H0, F0, F4, e, s4, t4, x4, o'⟩
        | ct e => rw [q4] at o'; exact fun H0 F0 F4 H4 σ4 s4 t4 x4 => ⟨H0, F0, F4, e, s4, t4, x4, o'⟩
        | bk e => rw [q4] at o'; exact o'
        | rt d e => rw [q4] at o'; exact o'
        | xc e c n => rw [q4] at o'; exact o'
        | bad => rw [q4] at o'; exact o'
/-- no slot owns a thing -/
def noOw : DEnv → Bool := fun env => env.all fun x => match x with
  | some (.ow _ _) => false
  | _ => true
/-- places = sorted(range(a), key=lambda place: _law_mixed(cell, place)) -/
def sSortLam (i j : Nat) (fa : DEnv → R D) : DEnv → Out := fun env => if noOw env = true then (match fa env, env[j]? with
  | .ok (.int n), some (some (.fr (.int c))) => if 0 ≤ n ∧ n ≤ 1000000 then .nx (env.set i (some (.ow none (.lst ((sortBy (mixI c) (rgI n.toNat)).map .int))))) else .bad
  | _, _ => .bad) else .bad
theorem rd_sortLam {i j : Nat} {fa : DEnv → R D} {En : Ends} {σ : L2.St} {H : Hp} (h : rdX G T (sSortLam i j fa) En σ H) : tAsg (tSortLam T j (rdB G W fa)) (gName i) En σ H := by
  obtain ⟨FB, H0, F0, F, env, s, t, x, o⟩ := h
  refine ⟨H0, F0, F, env, s, ?_⟩
  unfold sSortLam at o
  by_cases hno : noOw env = true
  rotate_left
  · rw [if_neg hno] at o; exact o.elim
  rw [if_pos hno] at o
  cases q : fa env with
  | exc c n => rw [q] at o; exact o.elim
  | bad => rw [q] at o; exact o.elim
  | ok d =>
    rw [q] at o
    intro F1 H1 v s1 f1 h1 r1
    cases q2 : env[j]? with
    | none => rw [q2] at o; cases d <;> exact o.elim
    | some z =>
    rw [q2] at o
    cases d with
    | int n =>
      cases z with
      | none => exact o.elim
      | some y =>
      cases y with
      | fr d2 =>
        cases d2 with
        | int c =>
          dsimp only at o
          by_cases hn : 0 ≤ n ∧ n ≤ 1000000
          rotate_left
          · rw [if_neg hn] at o; exact o.elim
          rw [if_pos hn] at o
          cases r1
          obtain ⟨u, e1, rc⟩ := s1.sl j _ q2
          cases rc
          refine ⟨n.toNat, c, by rw [Int.toNat_of_nonneg hn.1], by omega, e1, t.1.ext s1.h0, fun H2 Dl eN T2 hD => ?_⟩
          -- the state behind it
          have fn1 : ∀ p ∈ T, F1 p.1 = none := (XT.rebase s1 t).2
          have f12 : Same F1 H2 := fun b ob z => eN _ _ (s1.fh _ _ z) fun ps e => s1.nt b ps (by rw [← e]; exact z)
          have fD : F1 Dl = none := f12.free hD
          have s2 : SR G H2 F1 F1 (upd H2 Dl (.lst ((sortBy (mixI c) (rgI n.toNat)).map V.int))) σ env := by
            refine ⟨same_new hD, .refl _, f12.trans (same_new hD), fun _ _ => rfl, s1.nt, s1.len, fun m y hy => ?_, s1.ds⟩
            obtain ⟨v, e2, a2⟩ := s1.sl m y hy
            refine ⟨v, e2, ?_⟩
            cases y with
            | fr d => exact a2
            | raw w => exact a2
            | ow qq cc =>
              have := List.all_eq_true.mp hno _ (List.mem_of_getElem? hy)
              cases this
          have nw : ∀ (m : Nat) (qm : Option Addr) (cm : Own), m ≠ i → env[m]? = some (some (.ow qm cm)) → σ[m]? ≠ some (some (.ref Dl)) := fun m qm cm _ hy => by
            have := List.all_eq_true.mp hno _ (List.mem_of_getElem? hy)
            cases this
          refine o (fun b => if b = Dl then none else H2 b) F1 F1 _ _ ?_ ⟨fun p hp => ?_, fn1⟩ (x.trans s1.f0)
          · have s3 : SR G (fun b => if b = Dl then none else H2 b) F1 F1 (upd H2 Dl (.lst ((sortBy (mixI c) (rgI n.toNat)).map V.int))) σ env := by
              refine ⟨fun b ob z => ?_, s2.f0, s2.fh, fun _ _ => rfl, s2.nt, s2.len, fun m y hy => ?_, s2.ds⟩
              · by_cases hb : b = Dl
                · rw [if_pos hb] at z; cases z
                · rw [if_neg hb] at z; rw [upd_ne hb]; exact z
              · obtain ⟨v, e2, a2⟩ := s2.sl m y hy
                refine ⟨v, e2, ?_⟩
                cases y with
                | fr d => exact a2
                | raw w => exact a2
                | ow qq cc =>
                  have := List.all_eq_true.mp hno _ (List.mem_of_getElem? hy)
                  cases this
            exact s3.setO (fun _ z => nomatch z) (if_pos rfl) fD ⟨_, upd_same, Reps.of_ints _⟩ nw
          · have ne : ∀ b ob, H2 b = some ob → (if b = Dl then none else H2 b) = some ob := fun b ob z => by
              rw [if_neg (ne_of_none z hD)]; exact z
            obtain ⟨ps, g1, g2, g3⟩ := T2 p hp
            exact ⟨ps, ne _ _ g1, g2, fun pos cv hcv => by obtain ⟨c0, e0, e5⟩ := g3 pos cv hcv; exact ⟨c0, e0, ne _ _ e5⟩⟩
        | _ => exact o.elim
      | ow _ _ => exact o.elim
      | raw _ => exact o.elim
    | _ => exact o.elim
theorem y_sortLam {y1 : Str} {c P fm : Addr} {i j : Nat} {a : Expr} {fa : DEnv → R D} {params : Arguments} {body : Expr} {sc : Scope} {p p2 p3 lp kp pos2 yp : Pos} (hS : Sit X W k) (TB : TabB X.base X.mg c P) (hcode : X.env.code = .ref c) (hT : T = [(P, X.env.qual ++ "<lambda>")])
    (hm1 : X.mg "sorted" = none) (hm2 : X.mg "range" = none) (ha : PE X a (rdB G W fa)) (M : MixT X.K fm "_law_mixed") (hm : X.mg "_law_mixed" = some (.ref fm)) (hk : PySem.W.keepIn X.K (.ref fm) = true) (L : LamT params body sc)
    (hi : X.N[i]? = some y1 := by rfl) (hy : Loc X.env.scope y1 := by first | exact Or.inl rfl | exact Or.inr rfl) (hj : X.N[j]? = some "cell" := by rfl) (hcl : X.env.scope.names.lookup ("cell" : Str) = some .cell := by rfl) (hg1 : Gl X "sorted" := by rfl) (hg2 : Gl X "range" := by rfl) (hdef : defaultsOf params X.env = ([], []) := by rfl)
    (hs : swapsWith (.Call (.Name "sorted" p) [.Call (.Name "range" p2) [a] [] p3] [⟨some "key", .Lambda params body sc lp, kp⟩] pos2) (some (.Name y1 yp)) pos.line X.env = pure false := by rfl)
    (hf : X.fn y1 = true ∨ X.env.scope.names.lookup y1 = some .local := by first | exact .inl rfl | exact .inr rfl)
    (na : starEach [a] X.env = (false, eval a X.env) :: starEach [] X.env := by rfl) (he : backTo pos2 (starEach [.Call (.Name "range" p2) [a] [] p3] X.env) = (false, eval (.Call (.Name "range" p2) [a] [] p3) X.env) :: backTo pos2 (starEach [] X.env) := by rfl)
    (hpl : (backTo pos2 (starEach [.Call (.Name "range" p2) [a] [] p3] X.env)).any (·.1) = false := by rfl)
    (hall : (backToKw pos2 (keywordEach [⟨some "key", .Lambda params body sc lp, kp⟩] X.env)).all (·.1.isSome) = true := by rfl) (hnone : (backToKw pos2 (keywordEach [⟨some "key", .Lambda params body sc lp, kp⟩] X.env)).any (·.1.isNone) = false := by rfl)
    (hks : (backToKw pos2 (keywordEach [⟨some "key", .Lambda params body sc lp, kp⟩] X.env)).filterMap (·.1) = [("key" : Str)] := by rfl) :
    PS X (.Assign [.Name y1 yp] (.Call (.Name "sorted" p) [.Call (.Name "range" p2) [a] [] p3] [⟨some "key", .Lambda params body sc lp, kp⟩] pos2) pos) (rdX G T (sSortLam i j fa)) := by
  subst hT
  exact ps_mono (ps_set (i := i) hS.nd hi hy (pe_sortLam hS.calm hS.room TB hcode (List.mem_singleton.mpr rfl) (fun p hp _ => by rw [List.mem_singleton.mp hp]) hg1 hm1 hg2 hm2 ha M hm hk L hdef hj hcl na he hpl hall hnone hks) hs hf) fun En σ H h => rd_sortLam h
end
/-! ### the law -/
def spLX (K : PySem.W.Frag) (T : List (Addr × Str)) (pre : List Int → Prop) : Sp := fun vs H Q E => ∃ (a : Addr) (ns : List Int), vs = [.ref a] ∧ SqL K H a (ns.map V.int) ∧ Tabs T H ∧ pre ns ∧ ∀ H', Q (.bl true) H'
theorem script_at {G : Par} {H : Hp} {a : Addr} {ns : List Int} (h : SqL G.K H a (ns.map V.int)) (T : List (Addr × Str)) (t : Tabs T H) : ∃ F, Same F H ∧ (∀ p ps, F p ≠ some (.tbl ps)) ∧ Rep G F (.ref a) (lstI ns) ∧ ∀ p ∈ T, F p.1 = none := by
  rcases h with h | h
  · have hn : ∀ ps, H a ≠ some (.tbl ps) := fun ps z => by
      rcases h with h | ⟨o, h⟩ <;> rw [z] at h <;> cases h
    let F : Hp := fun b => if b = a then H a else none
    have Fa : F a = H a := if_pos rfl
    have Fn : ∀ b, b ≠ a → F b = none := fun b hb => if_neg hb
    refine ⟨F, fun b u z => ?_, fun p ps z => ?_, .lst (.inl ?_) (Reps.of_ints ns), fun p hp => ?_⟩
    · by_cases hb : b = a
      · subst hb; rw [Fa] at z; exact z
      · rw [Fn b hb] at z; cases z
    · by_cases hb : p = a
      · subst hb; rw [Fa] at z; exact hn ps z
      · rw [Fn p hb] at z; cases z
    · rcases h with h | ⟨o, h⟩
      · exact .inl (Fa.trans h)
      · exact .inr ⟨o, Fa.trans h⟩
    · obtain ⟨ps, z, _⟩ := t p hp
      refine Fn _ fun e => ?_
      rw [e] at z
      exact hn ps z
  · exact ⟨fun _ => none, (fun _ _ z => nomatch z), (fun _ _ z => nomatch z), Rep.lst (.inr h) (Reps.of_ints ns), fun _ _ => rfl⟩
section
variable {P : Program} {w : World} {K : PySem.W.Frag} {mg : Str → Option Value} {base : Heap} {C : Addr}
theorem law_lam {st : Stmt} {f c : Addr} {oc kV doc pm ct : Value} {od an : Option Addr} {osl : Array (Option Value)} {N : List Str} {k : Nat} {T : List (Addr × Str)} {pre : List Int → Prop} {body : DEnv → Out}
    (lk : K.lookup f = some ⟨oc, od, .func (PySem.W.fnOf "law" "law" (defArgs st) (defBody st) (defScope st) .none kV doc pm an (.ref c) ct), osl⟩) (hcd : PySem.W.codeIn K (.ref c) "law" = true) (S : FnScope N ["script"] (defScope st))
    (hb : ∀ (A : Around) (outer : List Env) (s : Shared) (H : Hp) (E : XK), Sit (cxOf (L2.CX P w) P w K mg base N "law" (defScope st) f (.ref c) A outer s H E) (WL E) k →
      PSs (cxOf (L2.CX P w) P w K mg base N "law" (defScope st) f (.ref c) A outer s H E) (defBody st) (rdX ⟨K, mg, C⟩ T body))
    (hm : ∀ ns, pre ns → ∃ e, body (startE N.length [lstI ns]) = .rt (.bl true) e) :
    FnOk P w K mg base (L2.CX P w) (k + 1) f (PySem.W.fnOf "law" "law" (defArgs st) (defBody st) (defScope st) .none kV doc pm an (.ref c) ct) ["script"] (spLX K T pre) := by
  refine fn_of lk hcd S (fun vs H Q E h => ?_) fun A outer s H vs Q E hr h => ⟨_, hb A outer s H E ⟨rfl, S.nd, takes_of rfl rfl rfl rfl, hr, passes_of rfl⟩, ?_⟩
  · obtain ⟨_, _, rfl, _⟩ := h; rfl
  obtain ⟨a, ns, rfl, hs, ht, hp, q⟩ := h
  obtain ⟨F, e, nt, r, hF⟩ := script_at (G := ⟨K, mg, C⟩) hs T ht
  obtain ⟨e', he⟩ := hm ns hp
  have hN : 1 ≤ N.length := by have := congrArg List.length S.pre; rw [List.length_take] at this; exact Nat.le_trans (Nat.le_of_eq this.symm) (Nat.min_le_right _ _)
  refine ⟨F, H, F, F, _, sr_start nt e (.cons r .nil) (by simpa using hN), ⟨ht, hF⟩, .refl _, ?_⟩
  rw [he]
  intro F' H' v rv
  cases rv
  exact q H'
/-- a law without tables -/
def spLP (K : PySem.W.Frag) (pre : List Int → Prop) : Sp := fun vs H Q E => ∃ (a : Addr) (ns : List Int), vs = [.ref a] ∧ SqL K H a (ns.map V.int) ∧ pre ns ∧ ∀ H', Q (.bl true) H'
theorem law_plain {f : Addr} {fd : FuncData} {k : Nat} {m : List D → R D} {pre : List Int → Prop} (F : FnOk P w K mg base (L2.CX P w) k f fd ["script"] (spD ⟨K, mg, C⟩ 1 m)) (hm : ∀ ns, pre ns → m [lstI ns] = .ok (.bl true)) :
    FnOk P w K mg base (L2.CX P w) k f fd ["script"] (spLP K pre) :=
  F.imp fun vs H Q E ⟨a, ns, ev, hs, hp, q⟩ => by
    subst ev
    obtain ⟨F, e, nt, r, _⟩ := script_at (G := ⟨K, mg, C⟩) hs [] (fun p hp => nomatch hp)
    refine ⟨F, [lstI ns], e, nt, .cons r .nil, rfl, ?_⟩
    rw [hm ns hp]
    intro F' H' v ex rv
    cases rv
    exact q H'
end
/-! ### the small texts -/
theorem xx_fgt {X : Cx} {G : Par} {T : List (Addr × Str)} {st : Stmt} {f : DEnv → Out} (i : Nat) (h : PS X st (rdX G T f)) : PS X st (rdX G T (sPre (gFgt i) f)) := ps_mono h fun En σ H ⟨FB, H0, F0, F, env, s, t, x, o⟩ => ⟨FB, H0, F0, F, _, s.forget i, t, x, o⟩
def lamChk (sc : Scope) : Bool := decide (sc.kind = .function) && !sc.isCoroutine && !sc.isGenerator && sc.names.all (fun y => !decide (y.2 = .cell)) && decide (sc.names.lookup ("place" : Str) = some .local) && decide (sc.names.lookup ("cell" : Str) = some .free) && decide (sc.names.lookup ("_law_mixed" : Str) = some .globalImplicit) && sc.names.all (fun y => !decide (y.2 = .free) || decide (y.1 = ("cell" : Str)))
theorem lamT_by {params : Arguments} {sc : Scope} {p1 p2 p3 p4 : Pos} (hbind : ∀ (q : Str) (cl : List (Str × Addr)) (pm cv ctv v : Value), bindArgs (PySem.W.kla_fn "<lambda>" q params (lamB p1 p2 p3 p4) sc cl pm cv ctv) ⟨[v], []⟩ = pure [(("place" : Str), v)]) (h : lamChk sc = true) : LamT params (lamB p1 p2 p3 p4) sc := by
  unfold lamChk at h
  simp only [Bool.and_eq_true, Bool.not_eq_true', decide_eq_true_eq, List.all_eq_true, Bool.or_eq_true, decide_eq_false_iff_not] at h
  obtain ⟨⟨⟨⟨⟨⟨⟨h1, h2⟩, h3⟩, h4⟩, h5⟩, h6⟩, h7⟩, h8⟩ := h
  exact ⟨⟨p1, p2, p3, p4, rfl⟩, hbind, h1, h2, h3, h4, h5, h6, h7, fun y hy e => (h8 y hy).elim (fun z => absurd e z) id⟩
def mixChk (sc : Scope) : Bool := decide (sc.names.lookup ("cell" : Str) = some .local) && decide (sc.names.lookup ("salt" : Str) = some .local) && decide (sc.names.lookup ("mixed" : Str) = some .local) && !sc.isCoroutine && !sc.isGenerator && decide (sc.kind = .function)
theorem mix_of {K : PySem.W.Frag} {x : Str} {st : Stmt} {f : Addr} {fd : FuncData} (F : Fun K x x st f fd) {a1 a2 a3 a4 a5 a6 a7 a8 a9 a10 a11 b1 b2 b3 b4 b5 b6 : Pos} {k1 k2 k3 k4 : Nat} (hb : defBody st = mixB a1 a2 a3 a4 a5 a6 a7 a8 a9 a10 a11 b1 b2 b3 b4 b5 b6 k1 k2 k3 k4)
    (hbd : ∀ (kV doc pm cdv ct : Value) (an : Option Addr) (s : Shared) (u v : Value), BindsTo s (PySem.W.fnOf x x (defArgs st) (defBody st) (defScope st) .none kV doc pm an cdv ct) ⟨[u, v], []⟩ [("cell", u), ("salt", v)]) (h : mixChk (defScope st) = true) : MixT K f x := by
  unfold mixChk at h
  simp only [Bool.and_eq_true, Bool.not_eq_true', decide_eq_true_eq] at h
  obtain ⟨⟨⟨⟨⟨h1, h2⟩, h3⟩, h4⟩, h5⟩, h6⟩ := h
  obtain ⟨oc, od, kV, doc, pm, an, cdv, ct, osl, rfl, lk, hcd⟩ := F.ex
  rw [hb] at lk
  refine ⟨oc, od, an, .none, kV, doc, pm, cdv, ct, osl, defArgs st, defScope st, a1, a2, a3, a4, a5, a6, a7, a8, a9, a10, a11, b1, b2, b3, b4, b5, b6, k1, k2, k3, k4, lk, hcd, fun s u v => ?_, h1, h2, h3, h4, h5, h6⟩
  rw [← hb]
  exact hbd kV doc pm cdv ct an s u v
end S

set_option Elab.async false
set_option linter.all false
set_option maxRecDepth 100000
set_option maxHeartbeats 4000000
namespace S
open PySem PySem.Spec PyProof.Rows L2

section
variable {α : Type} (f g h : DEnv → Out) (fa fb fc : DEnv → R D) (fs : DEnv → R (List D)) (ga gb : DEnv → R Bool) (fn : DEnv → R Own) (env : DEnv) (i : Nat)
@[simp] theorem r_sSeq : sSeq f g env = (f env).thn g := rfl
@[simp] theorem r_sIf : sIf ga f g env = outR (ga env) env fun b => if b = true then f env else g env := by
  unfold sIf; congr 1; funext b; cases b <;> rfl
@[simp] theorem r_sSet : sSet i fa env = outR (fa env) env fun d => .nx (env.set i (some (.fr d))) := rfl
@[simp] theorem r_sSetN : sSetN i fn env = outR (fn env) env fun c => .nx (env.set i (some (.ow none c))) := rfl
@[simp] theorem r_sRet : sRet fa env = outR (fa env) env fun d => .rt d env := rfl
@[simp] theorem r_sRetN : sRetN env = .rt .non env := rfl
@[simp] theorem r_sNx : sNx env = .nx env := rfl
@[simp] theorem r_sCt : sCt env = .ct env := rfl
@[simp] theorem r_sBrk : sBrk env = .bk env := rfl
@[simp] theorem r_sRaise (c : Str) : sRaise c env = .xc env c none := rfl
@[simp] theorem r_sPre (k : DEnv → DEnv) : sPre k f env = f (k env) := rfl
@[simp] theorem r_sFor (fi : DEnv → R (List D)) (ft : D → DEnv → Option DEnv) : sFor fi ft f env = outR (fi env) env fun ds => loopFor ft f ds env := rfl
@[simp] theorem r_mC (d : D) : mC d env = .ok d := rfl
@[simp] theorem r_mOp (k : D → D → Option α) : mOp k fa fb env = (fa env).bind fun x => (fb env).bind fun y => .ofO (k x y) := rfl
@[simp] theorem r_mUn (k : D → Option α) : mUn k fa env = (fa env).bind fun x => .ofO (k x) := rfl
@[simp] theorem r_mNil : mNil env = .ok [] := rfl
@[simp] theorem r_mCons : mCons fa fs env = (fa env).bind fun x => (fs env).bind fun xs => .ok (x :: xs) := rfl
@[simp] theorem r_mAp (k : List D → Option α) : mAp k fs env = (fs env).bind fun xs => .ofO (k xs) := rfl
@[simp] theorem r_mTest : mTest fa env = (fa env).bind fun d => .ofO (dB d) := rfl
@[simp] theorem r_mAnd : mAnd ga gb env = (ga env).bind fun x => if x = true then gb env else .ok false := by
  unfold mAnd; congr 1; funext b; cases b <;> rfl
@[simp] theorem r_mOr : mOr ga gb env = (ga env).bind fun x => if x = true then .ok true else gb env := by
  unfold mOr; congr 1; funext b; cases b <;> rfl
@[simp] theorem r_mNot : mNot ga env = (ga env).bind fun x => .ok (!x) := rfl
@[simp] theorem r_mTup : mTup fs env = (fs env).bind fun xs => if xs.length ≤ 1000 then .ok (.tup xs) else .bad := rfl
@[simp] theorem r_mLst : mLst fs env = (fs env).bind fun xs => if xs.length ≤ 1000 then .ok (.lst xs) else .bad := rfl
@[simp] theorem r_mOfN : mOfN fn env = (fn env).map Own.d := rfl
@[simp] theorem r_mCallN (n : Nat) (m : List D → R D) : mCallN n m fs env = (fs env).bind fun ds => if ds.length = n then m ds else .bad := rfl
@[simp] theorem r_mIt (k : D → Option (List D)) : mIt k fa env = (fa env).bind fun d => .ofO (k d) := rfl
@[simp] theorem r_mItA (k : List D → Option (List D)) : mItA k fs env = (fs env).bind fun d => .ofO (k d) := rfl
@[simp] theorem r_mPart : mPart fa env = (fa env).bind fun d => match d with | .int i => .ok (some i) | _ => .bad := rfl
@[simp] theorem r_mPartN : mPartN env = .ok none := rfl
@[simp] theorem r_mTrue : mTrue env = .ok true := rfl
@[simp] theorem r_fr {d : D} (h : env[i]? = some (some (.fr d))) : mVar i env = .ok d := by unfold mVar; rw [h]
@[simp] theorem r_frB {d : D} (h : env[i]? = some (some (.fr d))) : mVarB i env = .ok d := by unfold mVarB; rw [h]
@[simp] theorem r_owB {q : Option Addr} {c : Own} (h : env[i]? = some (some (.ow q c))) : mVarB i env = .ok c.d := by unfold mVarB; rw [h]
@[simp] theorem r_gFrz {q : Option Addr} {c : Own} (h : env[i]? = some (some (.ow q c))) : gFrz i env = env.set i (some (.fr c.d)) := by unfold gFrz; rw [h]
@[simp] theorem r_gFrz2 {d : D} (h : env[i]? = some (some (.fr d))) : gFrz i env = env := by unfold gFrz; rw [h]
@[simp] theorem r_gFgt : gFgt i env = env.set i none := rfl
theorem r_mt1 {kd : Own → Bool} {k : Own → D → Option Own} {q : Option Addr} {c : Own} (h : env[i]? = some (some (.ow q c))) (hk : kd c = true) : sMt1 kd k i fa env = outR (fa env) env fun d => match k c d with
    | some c' => .nx (env.set i (some (.ow q c')))
    | none => .bad := by unfold sMt1; rw [h]; dsimp only; rw [if_pos hk] <;> rfl
theorem r_app {q : Option Addr} {ds : List D} (h : env[i]? = some (some (.ow q (.lst ds)))) (hl : ds.length < 1000000) : sMt1 isLst oApp i fa env = outR (fa env) env fun d => .nx (env.set i (some (.ow q (.lst (ds ++ [d]))))) := by
  rw [r_mt1 (h := h) (hk := rfl)]
  congr 1
  funext d
  show (match (if ds.length < 1000000 then some (Own.lst (ds ++ [d])) else none) with | some c' => Out.nx (env.set i (some (.ow q c'))) | none => .bad) = _
  rw [if_pos hl]
end
@[simp] theorem q_add (i j : Int) : gAdd (.int i) (.int j) = some (.int (i + j)) := rfl
@[simp] theorem q_sub (i j : Int) : gSub (.int i) (.int j) = some (.int (i - j)) := rfl
theorem q_mul {i j : Int} (h : (-(2 ^ 64) < i ∧ i < 2 ^ 64) ∨ (-(2 ^ 64) < j ∧ j < 2 ^ 64)) : gMul (.int i) (.int j) = some (.int (i * j)) := if_pos h
theorem q_div {i j : Int} (h : 0 < j ∧ j < 1073741824) : gDiv (.int i) (.int j) = some (.int (i / j)) := if_pos h
theorem q_mod {i j : Int} (h : 0 < j) : gMod (.int i) (.int j) = some (.int (i % j)) := if_pos h
@[simp] theorem q_lt (i j : Int) : gLt (.int i) (.int j) = some (.bl (decide (i < j))) := rfl
@[simp] theorem q_le (i j : Int) : gLe (.int i) (.int j) = some (.bl (decide (i ≤ j))) := rfl
@[simp] theorem q_gt (i j : Int) : gGt (.int i) (.int j) = some (.bl (decide (j < i))) := rfl
@[simp] theorem q_ge (i j : Int) : gGe (.int i) (.int j) = some (.bl (decide (j ≤ i))) := rfl
@[simp] theorem q_eq (i j : Int) : gEq (.int i) (.int j) = some (.bl (decide (i = j))) := rfl
@[simp] theorem q_ne (i j : Int) : gNe (.int i) (.int j) = some (.bl (!decide (i = j))) := rfl
@[simp] theorem q_dB (b : Bool) : dB (.bl b) = some b := rfl
@[simp] theorem q_len (ds : List D) : gLen [.lst ds] = some (.int ds.length) := rfl
@[simp] theorem q_lenT (ds : List D) : gLen [.tup ds] = some (.int ds.length) := rfl
@[simp] theorem q_tupL (ds : List D) : gTuple [.lst ds] = some (.tup ds) := rfl
@[simp] theorem q_itS (ds : List D) : itS (.lst ds) = some ds := rfl
@[simp] theorem q_itT (ds : List D) : itS (.tup ds) = some ds := rfl
@[simp] theorem q_ownd (ds : List D) : (Own.lst ds).d = .lst ds := rfl
theorem atI_ok {α : Type} {xs : List α} {i : Int} {v : α} (h0 : 0 ≤ i) (h : xs[i.toNat]? = some v) : atI xs i = some v := by
  have := atI_nat h
  rwa [Int.toNat_of_nonneg h0] at this
theorem q_ixL {ds : List D} {i : Int} {d : D} (h0 : 0 ≤ i) (h : ds[i.toNat]? = some d) : gIx (.lst ds) (.int i) = some d := atI_ok h0 h
theorem q_ixT {ds : List D} {i : Int} {d : D} (h0 : 0 ≤ i) (h : ds[i.toNat]? = some d) : gIx (.tup ds) (.int i) = some d := atI_ok h0 h
/-! lists of whole numbers -/
theorem eqD_int (a b : Int) : eqD (.int a) (.int b) = decide (a = b) := by
  show PyData.eqv (.int a) (.int b) = _
  by_cases h : a = b <;> simp [PyData.eqv, h]
theorem inD_int (a : Int) (ns : List Int) : inD (.int a) (ns.map .int) = some (decide (a ∈ ns)) := by
  unfold inD
  have h1 : (flatD (.int a) && (ns.map D.int).all flatD) = true := by
    rw [Bool.and_eq_true]
    exact ⟨rfl, List.all_eq_true.mpr fun d hd => by obtain ⟨n, _, rfl⟩ := List.mem_map.mp hd; rfl⟩
  rw [if_pos h1]
  congr 1
  induction ns with
  | nil => rfl
  | cons n ns ih =>
    rw [List.map_cons, List.any_cons, ih (by
      rw [Bool.and_eq_true] at h1 ⊢
      exact ⟨rfl, List.all_eq_true.mpr fun d hd => by obtain ⟨n, _, rfl⟩ := List.mem_map.mp hd; rfl⟩)]
    have : eqF (.int n) (.int a) = decide (n = a) := rfl
    rw [this]
    by_cases h : n = a
    · subst h; simp
    · have h' : ¬ a = n := fun z => h z.symm
      simp [h, h']
@[simp] theorem q_inL (a : Int) (ns : List Int) : gIn (.int a) (.lst (ns.map .int)) = some (.bl (decide (a ∈ ns))) := by
  show (inD (.int a) (ns.map .int)).map D.bl = _
  rw [inD_int]; rfl
@[simp] theorem q_inT (a : Int) (ns : List Int) : gIn (.int a) (.tup (ns.map .int)) = some (.bl (decide (a ∈ ns))) := by
  show (inD (.int a) (ns.map .int)).map D.bl = _
  rw [inD_int]; rfl
@[simp] theorem q_ninL (a : Int) (ns : List Int) : gNin (.int a) (.lst (ns.map .int)) = some (.bl (!decide (a ∈ ns))) := by
  show (inD (.int a) (ns.map .int)).map (fun b => D.bl (!b)) = _
  rw [inD_int]; rfl
@[simp] theorem q_ninT (a : Int) (ns : List Int) : gNin (.int a) (.tup (ns.map .int)) = some (.bl (!decide (a ∈ ns))) := by
  show (inD (.int a) (ns.map .int)).map (fun b => D.bl (!b)) = _
  rw [inD_int]; rfl
theorem dOk_ints (ns : List Int) : dOk (.lst (ns.map .int)) = true := by
  unfold dOk
  rw [Bool.and_eq_true]
  refine ⟨okDs_all fun d hd => ?_, decide_eq_true ?_⟩
  · obtain ⟨n, _, rfl⟩ := List.mem_map.mp hd; rfl
  · show deps (ns.map .int) + 1 ≤ 60
    have : deps (ns.map .int) ≤ 0 := by
      induction ns with
      | nil => exact Nat.le_refl _
      | cons n ns ih => show max (dep (.int n)) (deps (ns.map .int)) ≤ 0; have : dep (.int n) = 0 := rfl; omega
    omega
theorem eqv_nil (ns : List Int) : PyData.eqvAll (pys (ns.map .int)) (pys []) = decide (ns = []) := by
  cases ns with
  | nil => rfl
  | cons n ns => rfl
@[simp] theorem q_eqNil (ns : List Int) : gEq (.lst (ns.map .int)) (.lst []) = some (.bl (decide (ns = []))) := by
  show (if dOk (.lst (ns.map .int)) && dOk (.lst []) then some (D.bl (eqD (.lst (ns.map .int)) (.lst []))) else none) = _
  rw [if_pos (by rw [dOk_ints]; exact dOk_ints [])]
  congr 2
  exact eqv_nil ns
@[simp] theorem q_neNil (ns : List Int) : gNe (.lst (ns.map .int)) (.lst []) = some (.bl (!decide (ns = []))) := by
  unfold gNe
  rw [q_eqNil]
end S

set_option Elab.async false
set_option linter.all false
set_option maxRecDepth 100000
set_option maxHeartbeats 4000000
namespace K45
open PySem PySem.Spec PyProof.Rows L2 S
def top (i : Nat) : Stmt := PySem.Challenge.pw_guardround_k45_whole_calls_from_a_set_ap.main.body.getD i (.Pass ⟨0, 0, 0, 0⟩)

abbrev s_apart_call : Stmt := top 5
abbrev s_law_cell_at : Stmt := top 10
abbrev s_law_mixed : Stmt := top 11
abbrev s_law_whole : Stmt := top 12
abbrev s_law_pool : Stmt := top 13
abbrev s_law_ties : Stmt := top 14
abbrev s_law_turned : Stmt := top 15
abbrev s_law_nears : Stmt := top 16
abbrev s_law_some : Stmt := top 17
abbrev s_law_apart_from : Stmt := top 18
abbrev s_law_played : Stmt := top 19
abbrev s_law : Stmt := top 20
abbrev s_WebInit : Stmt := inClass (top 8) 0
structure Txt (K : PySem.W.Frag) (mg : Str → Option Value) (C : Addr) where
  apart_call : Dn K mg "apart_call" s_apart_call ["web", "some", "standing"]
  law_cell_at : Dn K mg "_law_cell_at" s_law_cell_at ["script", "k"]
  law_mixed : Dn K mg "_law_mixed" s_law_mixed ["cell", "salt"]
  law_whole : Dn K mg "_law_whole" s_law_whole ["found"]
  law_pool : Dn K mg "_law_pool" s_law_pool ["script", "start"]
  law_ties : Dn K mg "_law_ties" s_law_ties ["pool", "many", "thick"]
  law_turned : Dn K mg "_law_turned" s_law_turned ["ties", "cell"]
  law_nears : Dn K mg "_law_nears" s_law_nears ["ties", "many"]
  law_some : Dn K mg "_law_some" s_law_some ["cell", "many", "often"]
  law_apart_from : Dn K mg "_law_apart_from" s_law_apart_from ["nears", "start"]
  law_played : Dn K mg "_law_played" s_law_played ["web", "nears", "some", "standing", "pool"]
  law : Dn K mg "law" s_law ["script"]
  web : WebT K C
  webM : WebMk K mg C s_WebInit
  x_BadPlaces : ExC K mg "BadPlaces"
  x_BadTie : ExC K mg "BadTie"
  z_any : mg "any" = none
  z_bool : mg "bool" = none
  z_int : mg "int" = none
  z_isinstance : mg "isinstance" = none
  z_len : mg "len" = none
  z_max : mg "max" = none
  z_min : mg "min" = none
  z_range : mg "range" = none
  z_sorted : mg "sorted" = none
  z_sum : mg "sum" = none
  z_tuple : mg "tuple" = none
  c_MOST_PLACES : ∃ t, mg "MOST_PLACES" = some (.int 60 t)
section
variable {P : Program} {w : World} {K : PySem.W.Frag} {mg : Str → Option Value} {base : Heap} {C : Addr}
theorem sc_WebInit : FnScope ["self", "places", "ties", "found", "one", "other", "tie"] ["self", "places", "ties"] (defScope s_WebInit) := ⟨rfl, rfl, rfl, by decide +kernel, rfl, by decide +kernel, by decide +kernel⟩
theorem ok_WebInit (T : Txt K mg C) : FnOk P w K mg base (L2.CX P w) 1 T.webM.fI T.webM.fd ["self", "places", "ties"] (spWI ⟨K, mg, C⟩) :=
  web_init T.webM.F sc_WebInit T.web fun cdv A outer s H Ex hS => by
    unfold bW1 bW2 bW3 bW4 bW5
    exact (pss_cons (y_if (t_not (t_chain op_le d_le op_le d_le (E.toB e_int) (b_var 1) (E.toB (e_glob (v := .int 60) T.c_MOST_PLACES.choose_spec ⟨_, rfl⟩ fun _ => .int _)))) (z_one (y_raise hS T.x_BadPlaces)) z_nil)
    (pss_cons (y_setN (i := 3) hS (n_lst x_nil))
    (pss_cons (y_for hS (w_seq (e_var 2)) (g_tup hS.calm (gs_cons (i := 4) hS.nd (gs_cons (i := 5) hS.nd gs_nil))) (z_cons (y_set (i := 6) hS (e_tup (x_cons (e_callB (call_min2 hS.calm) d_min2 T.z_min PyProof.Rows.boot_min (a_cons (b_var 4) (a_cons (b_var 5) a_nil))) (x_cons (e_callB (call_max2 hS.calm) d_max2 T.z_max PyProof.Rows.boot_max (a_cons (b_var 4) (a_cons (b_var 5) a_nil))) x_nil))))
    (z_cons (y_if (t_pw (t_or (t_cmp (op_eqA hS.room) d_eqA (b_var 4) (b_var 5) (nomark _)) (t_or (t_cmp op_lt d_lt (E.toB (e_ix (b_var 6) (E.toB e_int))) (E.toB e_int) (nomark _)) (t_or (t_cmp op_ge d_ge (E.toB (e_ix (b_var 6) (E.toB e_int))) (b_var 1) (nomark _)) (t_or1 (t_cmp (op_inA hS.room) d_inA (b_var 6) (b_var 3) (by first | rfl | with_unfolding_all rfl))))))) (z_one (y_raise hS T.x_BadTie)) z_nil)
    (z_one (y_mt1 3 PySem.F.plainAttrs_list PySem.F.slot_list_append PySem.F.type_list_append mt_append k_lst o_app (e_var 6))))))
    (pss_cons (ps_fld (pe_var (i := 0) rfl (Or.inl rfl)) (e_var 1) rfl) (pss_one (ps_fld (pe_var (i := 0) rfl (Or.inl rfl)) (e_callTy call_tuple_of d_tuple T.z_tuple PyProof.Rows.boot_tuple (a_cons (N.toB (n_callB (cr_sortA hS.room) (d_sorted rfl) T.z_sorted PyProof.Rows.boot_sorted (a_cons (b_var 3) a_nil))) a_nil)) rfl))))))
theorem sc_apart_call : FnScope ["web", "some", "standing", "place"] ["web", "some", "standing"] (defScope s_apart_call) := ⟨rfl, rfl, rfl, by decide +kernel, rfl, by decide +kernel, by decide +kernel⟩
def b_apart_call : DEnv → Out := (sSeq (sFor (mIt itS (mVar 1)) (tgN 3) (sIf (mTest (mOp gNin (mVarB 3) (mVarB 2))) (sRet (mVar 3)) sNx))
    (sRet (mC .non)))
def m_apart_call : List D → R D := runFn 4 b_apart_call
theorem ok_apart_call (T : Txt K mg C) : FnOk P w K mg base (L2.CX P w) 1 T.apart_call.f T.apart_call.fd ["web", "some", "standing"] (spD ⟨K, mg, C⟩ 3 m_apart_call) :=
  fn_ok T.apart_call.F sc_apart_call rfl fun cdv A outer s H Ex hS => by
    unfold b_apart_call
    exact (z_cons (y_for hS (w_seq (e_var 1)) (g_name (i := 3) hS.nd) (z_one (y_if (t_cmp (op_ninA hS.room) d_ninA (b_var 3) (b_var 2) (by first | rfl | with_unfolding_all rfl)) (z_one (y_ret (e_var 3))) z_nil)))
    (z_one (y_ret e_non)))
theorem sc_law_cell_at : FnScope ["script", "k"] ["script", "k"] (defScope s_law_cell_at) := ⟨rfl, rfl, rfl, by decide +kernel, rfl, by decide +kernel, by decide +kernel⟩
def b_law_cell_at : DEnv → Out := (sSeq (sIf (mTest (mOp gLt (mVarB 1) (mAp gLen (mCons (mVarB 0) mNil)))) (sRet (mOp gIx (mVarB 0) (mVarB 1))) sNx)
    (sRet (mC (.int 0))))
def m_law_cell_at : List D → R D := runFn 2 b_law_cell_at
theorem ok_law_cell_at (T : Txt K mg C) : FnOk P w K mg base (L2.CX P w) 1 T.law_cell_at.f T.law_cell_at.fd ["script", "k"] (spD ⟨K, mg, C⟩ 2 m_law_cell_at) :=
  fn_ok T.law_cell_at.F sc_law_cell_at rfl fun cdv A outer s H Ex hS => by
    unfold b_law_cell_at
    exact (z_cons (y_if (t_cmp op_lt d_lt (b_var 1) (E.toB (e_callB cl_lenA d_len' T.z_len PySem.boot_len (a_cons (b_var 0) a_nil))) (nomark _)) (z_one (y_ret (e_ix (b_var 0) (b_var 1)))) z_nil)
    (z_one (y_ret e_int)))
theorem sc_law_mixed : FnScope ["cell", "salt", "mixed"] ["cell", "salt"] (defScope s_law_mixed) := ⟨rfl, rfl, rfl, by decide +kernel, rfl, by decide +kernel, by decide +kernel⟩
def b_law_mixed : DEnv → Out := (sSeq (sSet 2 (mOp gMod (mOp gMul (mOp gAdd (mOp gMod (mVarB 0) (mC (.int 2147483647))) (mVarB 1)) (mC (.int 48271))) (mC (.int 2147483647))))
    (sRet (mOp gMod (mOp gMul (mVarB 2) (mVarB 2)) (mC (.int 2147483629)))))
def m_law_mixed : List D → R D := runFn 3 b_law_mixed
theorem ok_law_mixed (T : Txt K mg C) : FnOk P w K mg base (L2.CX P w) 1 T.law_mixed.f T.law_mixed.fd ["cell", "salt"] (spD ⟨K, mg, C⟩ 2 m_law_mixed) :=
  fn_ok T.law_mixed.F sc_law_mixed rfl fun cdv A outer s H Ex hS => by
    unfold b_law_mixed
    exact (z_cons (y_set (i := 2) hS (e_op op_mod d_mod (E.toB (e_op op_mul d_mul (E.toB (e_op op_addA d_addA (E.toB (e_op op_mod d_mod (b_var 0) (E.toB e_int))) (b_var 1))) (E.toB e_int))) (E.toB e_int)))
    (z_one (y_ret (e_op op_mod d_mod (E.toB (e_op op_mul d_mul (b_var 2) (b_var 2))) (E.toB e_int)))))
theorem sc_law_whole : FnScope ["found"] ["found"] (defScope s_law_whole) := ⟨rfl, rfl, rfl, by decide +kernel, rfl, by decide +kernel, by decide +kernel⟩
def b_law_whole : DEnv → Out := (sRet (mAndV (mUn (fun d => (tyB "int" d).map D.bl) (mVarB 0)) (mNotV (mUn (fun d => (tyB "bool" d).map D.bl) (mVarB 0)))))
def m_law_whole : List D → R D := runFn 1 b_law_whole
theorem ok_law_whole (T : Txt K mg C) : FnOk P w K mg base (L2.CX P w) 1 T.law_whole.f T.law_whole.fd ["found"] (spD ⟨K, mg, C⟩ 1 m_law_whole) :=
  fn_ok T.law_whole.F sc_law_whole rfl fun cdv A outer s H Ex hS => by
    unfold b_law_whole
    exact (z_one (y_ret (e_and (e_isiTy (bb := tyB "int") (b_var 0) (hm := T.z_isinstance) (hx := rfl) (hmy := T.z_int) (hv := PyProof.Rows.boot_int) (hb := isi_ok)) (e_and1 (e_not (e_isiTy (bb := tyB "bool") (b_var 0) (hm := T.z_isinstance) (hx := rfl) (hmy := T.z_bool) (hv := PyProof.Rows.boot_bool) (hb := isi_ok)))))))
theorem sc_law_pool : FnScope ["script", "start", "pool", "k", "more"] ["script", "start"] (defScope s_law_pool) := ⟨rfl, rfl, rfl, by decide +kernel, rfl, by decide +kernel, by decide +kernel⟩
def b_law_pool : DEnv → Out := (sSeq (sSetN 2 (mLst (mCons (mAp gLen (mCons (mVarB 0) mNil)) mNil)))
    (sSeq (sFor (mItA itR1 (mCons (mC (.int 24)) mNil)) (tgN 3) (sSeq (sSetN 4 (mSl3 (mVarB 0) (mPart (mOp gAdd (mVarB 1) (mVarB 3))) mPartN (mPart (mC (.int 24)))))
    (sIf (mTest (mOp gNe (mVarB 4) (mOfN (mLst mNil)))) (sMt1 isLst oApp 2 (mAp gSum (mCons (mVarB 4) mNil))) sNx)))
    (sPre (gFrz 2) (sRet (mVar 2)))))
def m_law_pool : List D → R D := runFn 5 b_law_pool
theorem ok_law_pool (T : Txt K mg C) : FnOk P w K mg base (L2.CX P w) 1 T.law_pool.f T.law_pool.fd ["script", "start"] (spD ⟨K, mg, C⟩ 2 m_law_pool) :=
  fn_ok T.law_pool.F sc_law_pool rfl fun cdv A outer s H Ex hS => by
    unfold b_law_pool
    exact (z_cons (y_setN (i := 2) hS (n_lst (x_cons (e_callB cl_lenA d_len' T.z_len PySem.boot_len (a_cons (b_var 0) a_nil)) x_nil)))
    (z_cons (y_for hS (w_range1 (a_cons (E.toB e_int) a_nil) T.z_range) (g_name (i := 3) hS.nd) (z_cons (y_setN (i := 4) hS (n_sl3 (b_var 0) (o_some (E.toB (e_op op_addA d_addA (b_var 1) (b_var 3)))) o_none (o_some (E.toB e_int))))
    (z_one (y_if (t_cmp (op_neA hS.room) d_neA (b_var 4) (N.toB (n_lst x_nil)) (nomark _)) (z_one (y_mt1 2 PySem.F.plainAttrs_list PySem.F.slot_list_append PySem.F.type_list_append mt_append k_lst o_app (e_callB (cr_sum hS.calm) d_sum T.z_sum PyProof.Rows.boot_sum (a_cons (b_var 4) a_nil)))) z_nil))))
    (z_one (y_frz 2 (y_ret (e_var 2))))))
theorem sc_law_nears : FnScope ["ties", "many", "nears", "place", "one", "other", "some"] ["ties", "many"] (defScope s_law_nears) := ⟨rfl, rfl, rfl, by decide +kernel, rfl, by decide +kernel, by decide +kernel⟩
theorem ok_law_nears (T : Txt K mg C) : FnOk P w K mg base (L2.CX P w) 1 T.law_nears.f T.law_nears.fd ["ties", "many"] (spD ⟨K, mg, C⟩ 2 m_nears) :=
  nears_ok T.law_nears.F sc_law_nears fun cdv A outer s H Ex hS => by
    unfold tN bN3
    exact (pss_cons (ps_setLc (i := 2) (own := [("place", 3)]) rfl hS.nd rfl rfl (sw_true rfl rfl rfl rfl) (pi_range1 rfl T.z_range (pa_cons (pe_var (i := 1) rfl (Or.inl rfl)) pa_nil)) (blkOk_by (by kernel_rfl)) (fun s H C cl fp => pg_name (i := 3) hS.nd rfl (Or.inl rfl)) (fun s H C cl fp => pts_nil) (fun s H C cl fp => pe_lst pa_nil))
    (pss_cons (ps_for hS.own hS.calm (w_seq (e_var 0)) (pg_tup hS.calm (pgs_cons (pg_name (i := 4) hS.nd rfl (Or.inl rfl)) (pgs_cons (pg_name (i := 5) hS.nd rfl (Or.inl rfl)) pgs_nil)))
      (pss_cons (ps_expr (pe_bm PySem.F.plainAttrs_list PySem.F.slot_list_append PySem.F.type_list_append mt_append (pe_ix ix_seq (pe_var (i := 2) rfl (Or.inl rfl)) (pe_var (i := 4) rfl (Or.inl rfl)) (fun _ _ => rfl)) (pa_cons (pe_var (i := 5) rfl (Or.inl rfl)) pa_nil)))
      (pss_one (ps_expr (pe_bm PySem.F.plainAttrs_list PySem.F.slot_list_append PySem.F.type_list_append mt_append (pe_ix ix_seq (pe_var (i := 2) rfl (Or.inl rfl)) (pe_var (i := 5) rfl (Or.inl rfl)) (fun _ _ => rfl)) (pa_cons (pe_var (i := 4) rfl (Or.inl rfl)) pa_nil))))))
    (z_one (y_ret (N.toE (n_lc hS (own := [("some", 6)]) (w_seq (e_var 2)) (blkOk_by (by kernel_rfl)) (only_n (by decide)) (fun s H C cl fp hS => (g_name (i := 6) hS.nd)) (fun s H C cl fp hS => pts_yes) (fun s H C cl fp hS => (N.toE (n_callB (cr_sortA hS.room) (d_sorted rfl) T.z_sorted PyProof.Rows.boot_sorted (a_cons (b_var 6) a_nil))))))))))
theorem sc_law_apart_from : FnScope ["nears", "start", "some", "k", "place", "other"] ["nears", "start"] (defScope s_law_apart_from) := ⟨rfl, rfl, rfl, by decide +kernel, rfl, by decide +kernel, by decide +kernel⟩
def b_law_apart_from : DEnv → Out := (sSeq (sSetN 2 (mLst mNil))
    (sSeq (sFor (mItA itR1 (mCons (mAp gLen (mCons (mVarB 0) mNil)) mNil)) (tgN 3) (sSeq (sSet 4 (mOp gMod (mOp gAdd (mVarB 1) (mVarB 3)) (mAp gLen (mCons (mVarB 0) mNil))))
    (sIf (mNot (mTest (mAp gAny (mCons (mOfN (mLc [5] (mIt itS (mOp gIx (mVarB 0) (mVarB 4))) (tgN 5) mTrue (mOp gIn (mVarB 5) (mVarB 2)))) mNil)))) (sMt1 isLst oApp 2 (mVar 4)) sNx)))
    (sRet (mAp gTuple (mCons (mOfN (mAp gSorted (mCons (mVarB 2) mNil))) mNil)))))
def m_law_apart_from : List D → R D := runFn 6 b_law_apart_from
theorem ok_law_apart_from (T : Txt K mg C) : FnOk P w K mg base (L2.CX P w) 1 T.law_apart_from.f T.law_apart_from.fd ["nears", "start"] (spD ⟨K, mg, C⟩ 2 m_law_apart_from) :=
  fn_ok T.law_apart_from.F sc_law_apart_from rfl fun cdv A outer s H Ex hS => by
    unfold b_law_apart_from
    exact (z_cons (y_setN (i := 2) hS (n_lst x_nil))
    (z_cons (y_for hS (w_range1 (a_cons (E.toB (e_callB cl_lenA d_len' T.z_len PySem.boot_len (a_cons (b_var 0) a_nil))) a_nil) T.z_range) (g_name (i := 3) hS.nd) (z_cons (y_set (i := 4) hS (e_op op_mod d_mod (E.toB (e_op op_addA d_addA (b_var 1) (b_var 3))) (E.toB (e_callB cl_lenA d_len' T.z_len PySem.boot_len (a_cons (b_var 0) a_nil)))))
    (z_one (y_if (t_not (t_val (e_callB (cr_any hS.calm) d_any T.z_any PyProof.Rows.boot_any (a_cons (N.toB (n_lc hS (own := [("other", 5)]) (w_seq (e_ix (b_var 0) (b_var 4))) (blkOk_by (by kernel_rfl)) (only_n (by decide)) (fun s H C cl fp hS => (g_name (i := 5) hS.nd)) (fun s H C cl fp hS => pts_yes) (fun s H C cl fp hS => (e_cmp (op_inA hS.room) d_inA (b_var 5) (b_var 2) (by first | rfl | with_unfolding_all rfl))))) a_nil)))) (z_one (y_mt1 2 PySem.F.plainAttrs_list PySem.F.slot_list_append PySem.F.type_list_append mt_append k_lst o_app (e_var 4))) z_nil))))
    (z_one (y_ret (e_callTy call_tuple_of d_tuple T.z_tuple PyProof.Rows.boot_tuple (a_cons (N.toB (n_callB (cr_sortA hS.room) (d_sorted rfl) T.z_sorted PyProof.Rows.boot_sorted (a_cons (b_var 2) a_nil))) a_nil))))))
theorem sc_law_ties : FnScope ["pool", "many", "thick", "ties", "at", "other", "one", "cell"] ["pool", "many", "thick"] (defScope s_law_ties) := ⟨rfl, rfl, rfl, by decide +kernel, rfl, by decide +kernel, by decide +kernel⟩
def b_law_ties : DEnv → Out := (sSeq (sSetN 3 (mLst mNil))
    (sSeq (sSet 4 (mC (.int 0)))
    (sSeq (sFor (mItA itR2 (mCons (mC (.int 1)) (mCons (mVarB 1) mNil))) (tgN 5) (sFor (mItA itR1 (mCons (mVarB 5) mNil)) (tgN 6) (sSeq (sSet 7 (mOp gIx (mVarB 0) (mOp gMod (mVarB 4) (mAp gLen (mCons (mVarB 0) mNil)))))
    (sSeq (sSet 4 (mOp gAdd (mVarB 4) (mC (.int 1))))
    (sIf (mTest (mOp gLt (mOp gMod (mCallN 2 m_law_mixed (mCons (mVar 7) (mCons (mOp gAdd (mOp gMul (mC (.int 7)) (mVarB 6)) (mOp gMul (mC (.int 61)) (mVarB 5))) mNil))) (mC (.int 6))) (mVarB 2))) (sMt1 isLst oApp 3 (mTup (mCons (mVar 6) (mCons (mVar 5) mNil)))) sNx)))))
    (sPre (gFrz 3) (sRet (mVar 3))))))
def m_law_ties : List D → R D := runFn 8 b_law_ties
theorem ok_law_ties (T : Txt K mg C) : FnOk P w K mg base (L2.CX P w) 2 T.law_ties.f T.law_ties.fd ["pool", "many", "thick"] (spD ⟨K, mg, C⟩ 3 m_law_ties) :=
  fn_ok T.law_ties.F sc_law_ties rfl fun cdv A outer s H Ex hS => by
    unfold b_law_ties
    exact (z_cons (y_setN (i := 3) hS (n_lst x_nil))
    (z_cons (y_set (i := 4) hS e_int)
    (z_cons (y_for hS (w_range2 (a_cons (E.toB e_int) (a_cons (b_var 1) a_nil)) T.z_range) (g_name (i := 5) hS.nd) (z_one (y_for hS (w_range1 (a_cons (b_var 5) a_nil) T.z_range) (g_name (i := 6) hS.nd) (z_cons (y_set (i := 7) hS (e_ix (b_var 0) (E.toB (e_op op_mod d_mod (b_var 4) (E.toB (e_callB cl_lenA d_len' T.z_len PySem.boot_len (a_cons (b_var 0) a_nil)))))))
    (z_cons (y_set (i := 4) hS (e_op op_addA d_addA (b_var 4) (E.toB e_int)))
    (z_one (y_if (t_cmp op_lt d_lt (E.toB (e_op op_mod d_mod (E.toB (e_call hS (ok_law_mixed T) T.law_mixed.b T.law_mixed.m T.law_mixed.kp (x_cons (e_var 7) (x_cons (e_op op_addA d_addA (E.toB (e_op op_mul d_mul (E.toB e_int) (b_var 6))) (E.toB (e_op op_mul d_mul (E.toB e_int) (b_var 5)))) x_nil)))) (E.toB e_int))) (b_var 2) (nomark _)) (z_one (y_mt1 3 PySem.F.plainAttrs_list PySem.F.slot_list_append PySem.F.type_list_append mt_append k_lst o_app (e_tup (x_cons (e_var 6) (x_cons (e_var 5) x_nil))))) z_nil)))))))
    (z_one (y_frz 3 (y_ret (e_var 3)))))))
theorem sc_law_turned : FnScope ["ties", "cell", "told", "k"] ["ties", "cell"] (defScope s_law_turned) := ⟨rfl, rfl, rfl, by decide +kernel, rfl, by decide +kernel, by decide +kernel⟩
def b_law_turned : DEnv → Out := (sSeq (sSetN 2 (mLst mNil))
    (sSeq (sFor (mItA itR1 (mCons (mAp gLen (mCons (mVarB 0) mNil)) mNil)) (tgN 3) (sIf (mTest (mOp gEq (mOp gMod (mCallN 2 m_law_mixed (mCons (mVar 1) (mCons (mVar 3) mNil))) (mC (.int 2))) (mC (.int 0)))) (sMt1 isLst oApp 2 (mOp gIx (mVarB 0) (mVarB 3))) (sMt1 isLst oApp 2 (mTup (mCons (mOp gIx (mOp gIx (mVarB 0) (mVarB 3)) (mC (.int 1))) (mCons (mOp gIx (mOp gIx (mVarB 0) (mVarB 3)) (mC (.int 0))) mNil))))))
    (sSeq (sIf (mTest (mOp gEq (mOp gMod (mVarB 1) (mC (.int 2))) (mC (.int 1)))) (sMt0 isLst oRev 2) sNx)
    (sPre (gFrz 2) (sRet (mVar 2))))))
def m_law_turned : List D → R D := runFn 4 b_law_turned
theorem ok_law_turned (T : Txt K mg C) : FnOk P w K mg base (L2.CX P w) 2 T.law_turned.f T.law_turned.fd ["ties", "cell"] (spD ⟨K, mg, C⟩ 2 m_law_turned) :=
  fn_ok T.law_turned.F sc_law_turned rfl fun cdv A outer s H Ex hS => by
    unfold b_law_turned
    exact (z_cons (y_setN (i := 2) hS (n_lst x_nil))
    (z_cons (y_for hS (w_range1 (a_cons (E.toB (e_callB cl_lenA d_len' T.z_len PySem.boot_len (a_cons (b_var 0) a_nil))) a_nil) T.z_range) (g_name (i := 3) hS.nd) (z_one (y_if (t_cmp (op_eqA hS.room) d_eqA (E.toB (e_op op_mod d_mod (E.toB (e_call hS (ok_law_mixed T) T.law_mixed.b T.law_mixed.m T.law_mixed.kp (x_cons (e_var 1) (x_cons (e_var 3) x_nil)))) (E.toB e_int))) (E.toB e_int) (nomark _)) (z_one (y_mt1 2 PySem.F.plainAttrs_list PySem.F.slot_list_append PySem.F.type_list_append mt_append k_lst o_app (e_ix (b_var 0) (b_var 3)))) (z_one (y_mt1 2 PySem.F.plainAttrs_list PySem.F.slot_list_append PySem.F.type_list_append mt_append k_lst o_app (e_tup (x_cons (e_ix (E.toB (e_ix (b_var 0) (b_var 3))) (E.toB e_int)) (x_cons (e_ix (E.toB (e_ix (b_var 0) (b_var 3))) (E.toB e_int)) x_nil))))))))
    (z_cons (y_if (t_cmp (op_eqA hS.room) d_eqA (E.toB (e_op op_mod d_mod (b_var 1) (E.toB e_int))) (E.toB e_int) (nomark _)) (z_one (y_mt0 2 PySem.F.plainAttrs_list PySem.F.slot_list_reverse PySem.F.type_list_reverse mt_reverse k_lst o_rev)) z_nil)
    (z_one (y_frz 2 (y_ret (e_var 2)))))))
theorem sc_law_some : FnScope ["cell", "many", "often", "some", "place"] ["cell", "many", "often"] (defScope s_law_some) := ⟨rfl, rfl, rfl, by decide +kernel, rfl, by decide +kernel, by decide +kernel⟩
def b_law_some : DEnv → Out := (sSeq (sSetN 3 (mLst mNil))
    (sSeq (sFor (mItA itR1 (mCons (mVarB 1) mNil)) (tgN 4) (sIf (mTest (mOp gLt (mOp gMod (mCallN 2 m_law_mixed (mCons (mVar 0) (mCons (mOp gAdd (mC (.int 311)) (mVarB 4)) mNil))) (mC (.int 6))) (mVarB 2))) (sMt1 isLst oApp 3 (mVar 4)) sNx))
    (sRet (mAp gTuple (mCons (mVarB 3) mNil)))))
def m_law_some : List D → R D := runFn 5 b_law_some
theorem ok_law_some (T : Txt K mg C) : FnOk P w K mg base (L2.CX P w) 2 T.law_some.f T.law_some.fd ["cell", "many", "often"] (spD ⟨K, mg, C⟩ 3 m_law_some) :=
  fn_ok T.law_some.F sc_law_some rfl fun cdv A outer s H Ex hS => by
    unfold b_law_some
    exact (z_cons (y_setN (i := 3) hS (n_lst x_nil))
    (z_cons (y_for hS (w_range1 (a_cons (b_var 1) a_nil) T.z_range) (g_name (i := 4) hS.nd) (z_one (y_if (t_cmp op_lt d_lt (E.toB (e_op op_mod d_mod (E.toB (e_call hS (ok_law_mixed T) T.law_mixed.b T.law_mixed.m T.law_mixed.kp (x_cons (e_var 0) (x_cons (e_op op_addA d_addA (E.toB e_int) (b_var 4)) x_nil)))) (E.toB e_int))) (b_var 2) (nomark _)) (z_one (y_mt1 3 PySem.F.plainAttrs_list PySem.F.slot_list_append PySem.F.type_list_append mt_append k_lst o_app (e_var 4))) z_nil)))
    (z_one (y_ret (e_callTy call_tuple_of d_tuple T.z_tuple PyProof.Rows.boot_tuple (a_cons (b_var 3) a_nil))))))
theorem sc_law_played : FnScope ["web", "nears", "some", "standing", "pool", "turn", "call", "open_ones", "place", "movers", "gone"] ["web", "nears", "some", "standing", "pool"] (defScope s_law_played) := ⟨rfl, rfl, rfl, by decide +kernel, rfl, by decide +kernel, by decide +kernel⟩
def b_law_played : DEnv → Out := (sSeq (sFor (mItA itR1 (mCons (mOp gAdd (mAp gLen (mCons (mVarB 2) mNil)) (mC (.int 1))) mNil)) (tgN 5) (sSeq (sSet 6 (mCallN 3 m_apart_call (mCons (mVar 0) (mCons (mVar 2) (mCons (mVar 3) mNil)))))
    (sSeq (sSetN 7 (mLc [8] (mIt itS (mVar 2)) (tgN 8) (mTest (mOp gNin (mVarB 8) (mVarB 3))) (mVar 8)))
    (sSeq (sIf (mOr (mNot (mTest (mCallN 1 m_law_whole (mCons (mVar 6) mNil)))) (mTest (mOp gNe (mVarB 6) (mOp gIx (mVarB 7) (mC (.int 0)))))) (sRet (mC (.bl false))) sNx)
    (sSeq (sSetN 9 (mLc [8] (mIt itS (mVar 3)) (tgN 8) (mTest (mOp gIn (mVarB 8) (mOp gIx (mVarB 1) (mVarB 6)))) (mVar 8)))
    (sSeq (sIf (mTest (mOp gEq (mVarB 9) (mOfN (mLst mNil)))) (sRet (mC (.bl true))) sNx)
    (sSeq (sSet 10 (mOp gIx (mVarB 9) (mOp gMod (mOp gIx (mVarB 4) (mOp gMod (mVarB 5) (mAp gLen (mCons (mVarB 4) mNil)))) (mAp gLen (mCons (mVarB 9) mNil)))))
    (sSeq (sIf (mTest (mOp gIn (mVarB 10) (mVarB 2))) (sRet (mC (.bl false))) sNx)
    (sSet 3 (mAp gTuple (mCons (mOfN (mAp gSorted (mCons (mOfN (mOp gCat (mOfN (mLc [8] (mIt itS (mVar 3)) (tgN 8) (mTest (mOp gNe (mVarB 8) (mVarB 10))) (mVar 8))) (mOfN (mLst (mCons (mVar 6) mNil))))) mNil))) mNil)))))))))))
    (sRet (mC (.bl false))))
def m_law_played : List D → R D := runFn 11 b_law_played
theorem ok_law_played (T : Txt K mg C) : FnOk P w K mg base (L2.CX P w) 2 T.law_played.f T.law_played.fd ["web", "nears", "some", "standing", "pool"] (spD ⟨K, mg, C⟩ 5 m_law_played) :=
  fn_ok T.law_played.F sc_law_played rfl fun cdv A outer s H Ex hS => by
    unfold b_law_played
    exact (z_cons (y_for hS (w_range1 (a_cons (E.toB (e_op op_addA d_addA (E.toB (e_callB cl_lenA d_len' T.z_len PySem.boot_len (a_cons (b_var 2) a_nil))) (E.toB e_int))) a_nil) T.z_range) (g_name (i := 5) hS.nd) (z_cons (y_set (i := 6) hS (e_call hS (ok_apart_call T) T.apart_call.b T.apart_call.m T.apart_call.kp (x_cons (e_var 0) (x_cons (e_var 2) (x_cons (e_var 3) x_nil)))))
    (z_cons (y_setLc (i := 7) hS (own := [("place", 8)]) (w_seq (e_var 2)) (blkOk_by (by kernel_rfl)) (only_n (by decide)) (fun s H C cl fp hS => (g_name (i := 8) hS.nd)) (fun s H C cl fp hS => (pts_one (t_cmp (op_ninA hS.room) d_ninA (b_var 8) (b_var 3) (by first | rfl | with_unfolding_all rfl)))) (fun s H C cl fp hS => (e_var 8)))
    (z_cons (y_if (t_pw (t_or (t_not (t_val (e_call hS (ok_law_whole T) T.law_whole.b T.law_whole.m T.law_whole.kp (x_cons (e_var 6) x_nil)))) (t_or1 (t_cmp (op_neA hS.room) d_neA (b_var 6) (E.toB (e_ix (b_var 7) (E.toB e_int))) (nomark _))))) (z_one (y_ret e_bl)) z_nil)
    (z_cons (y_setLc (i := 9) hS (own := [("place", 8)]) (w_seq (e_var 3)) (blkOk_by (by kernel_rfl)) (only_n (by decide)) (fun s H C cl fp hS => (g_name (i := 8) hS.nd)) (fun s H C cl fp hS => (pts_one (t_cmp (op_inA hS.room) d_inA (b_var 8) (E.toB (e_ix (b_var 1) (b_var 6))) (by first | rfl | with_unfolding_all rfl)))) (fun s H C cl fp hS => (e_var 8)))
    (z_cons (y_if (t_cmp (op_eqA hS.room) d_eqA (b_var 9) (N.toB (n_lst x_nil)) (nomark _)) (z_one (y_ret e_bl)) z_nil)
    (z_cons (y_set (i := 10) hS (e_ix (b_var 9) (E.toB (e_op op_mod d_mod (E.toB (e_ix (b_var 4) (E.toB (e_op op_mod d_mod (b_var 5) (E.toB (e_callB cl_lenA d_len' T.z_len PySem.boot_len (a_cons (b_var 4) a_nil))))))) (E.toB (e_callB cl_lenA d_len' T.z_len PySem.boot_len (a_cons (b_var 9) a_nil)))))))
    (z_cons (y_if (t_cmp (op_inA hS.room) d_inA (b_var 10) (b_var 2) (by first | rfl | with_unfolding_all rfl)) (z_one (y_ret e_bl)) z_nil)
    (z_one (y_set (i := 3) hS (e_callTy call_tuple_of d_tuple T.z_tuple PyProof.Rows.boot_tuple (a_cons (N.toB (n_callB (cr_sortA hS.room) (d_sorted rfl) T.z_sorted PyProof.Rows.boot_sorted (a_cons (N.toB (n_op op_catL (d_cat rfl) (N.toB (n_lc hS (own := [("place", 8)]) (w_seq (e_var 3)) (blkOk_by (by kernel_rfl)) (only_n (by decide)) (fun s H C cl fp hS => (g_name (i := 8) hS.nd)) (fun s H C cl fp hS => (pts_one (t_cmp (op_neA hS.room) d_neA (b_var 8) (b_var 10) (nomark _)))) (fun s H C cl fp hS => (e_var 8)))) (N.toB (n_lst (x_cons (e_var 6) x_nil))))) a_nil))) a_nil))))))))))))
    (z_one (y_ret e_bl)))
theorem sc_law : FnScope ["script", "first", "many", "thick", "pool", "ties", "web", "nears", "some", "cell", "guards", "places"] ["script"] (defScope s_law) := ⟨rfl, rfl, rfl, by decide +kernel, rfl, by decide +kernel, by decide +kernel⟩
def b_law : DEnv → Out := (sSeq (sSet 1 (mCallN 2 m_law_cell_at (mCons (mVar 0) (mCons (mC (.int 0)) mNil))))
    (sSeq (sSet 2 (mOp gAdd (mC (.int 1)) (mOp gMod (mVarB 1) (mC (.int 14)))))
    (sSeq (sSet 3 (mOp gAdd (mC (.int 1)) (mOp gMod (mOp gDiv (mVarB 1) (mC (.int 5))) (mC (.int 6)))))
    (sSeq (sIf (mTest (mOp gEq (mOp gMod (mOp gDiv (mVarB 1) (mC (.int 14))) (mC (.int 8))) (mC (.int 3)))) (sSeq (sSet 2 (mOp gAdd (mC (.int 15)) (mOp gMod (mOp gDiv (mVarB 1) (mC (.int 112))) (mC (.int 26)))))
    (sSet 3 (mOp gAdd (mC (.int 1)) (mOp gMod (mOp gDiv (mVarB 1) (mC (.int 5))) (mC (.int 2)))))) sNx)
    (sSeq (sSet 4 (mCallN 2 m_law_pool (mCons (mVar 0) (mCons (mC (.int 1)) mNil))))
    (sSeq (sSet 5 (mCallN 3 m_law_ties (mCons (mVar 4) (mCons (mVar 2) (mCons (mVar 3) mNil)))))
    (sSeq (sSet 6 (mCallN 2 m_Web (mCons (mVar 2) (mCons (mCallN 2 m_law_turned (mCons (mVar 5) (mCons (mVar 1) mNil))) mNil))))
    (sSeq (sSet 7 (mCallN 2 m_nears (mCons (mVar 5) (mCons (mVar 2) mNil))))
    (sSeq (sSet 8 (mCallN 2 m_law_apart_from (mCons (mVar 7) (mCons (mOp gMod (mOp gDiv (mVarB 1) (mC (.int 7))) (mVarB 2)) mNil))))
    (sSeq (sIf (mOr (mTest (mOp gNotN (mCallN 3 m_apart_call (mCons (mVar 6) (mCons (mVar 8) (mCons (mVar 8) mNil)))) (mC .non))) (mTest (mOp gNotN (mCallN 3 m_apart_call (mCons (mVar 6) (mCons (mTup mNil) (mCons (mVar 8) mNil)))) (mC .non)))) (sRet (mC (.bl false))) sNx)
    (sSeq (sIf (mTest (mOp gLt (mAp gLen (mCons (mVarB 8) mNil)) (mC (.int 2)))) (sRet (mC (.bl true))) sNx)
    (sSeq (sFor (mIt itS (mVar 4)) (tgN 9) (sSeq (sSet 10 (mOp gAdd (mC (.int 1)) (mOp gMod (mVarB 9) (mOp gSub (mAp gLen (mCons (mVarB 8) mNil)) (mC (.int 1))))))
    (sSeq (sPre (gFgt 11) (sSortLam 11 9 (mVarB 2)))
    (sIf (mNot (mTest (mCallN 5 m_law_played (mCons (mVar 6) (mCons (mVar 7) (mCons (mVar 8) (mCons (mAp gTuple (mCons (mOfN (mAp gSorted (mCons (mOfN (mSlL (mVarB 11) mPartN (mPart (mVarB 10)))) mNil))) mNil)) (mCons (mVar 4) mNil)))))))) (sRet (mC (.bl false))) sNx))))
    (sRet (mC (.bl true)))))))))))))))
theorem ok_law (T : Txt K mg C) {P0 f c : Addr} {oc kV doc pm ct : Value} {od an : Option Addr} {osl : Array (Option Value)} {pre : List Int → Prop} (lk : K.lookup f = some ⟨oc, od, .func (PySem.W.fnOf "law" "law" (defArgs s_law) (defBody s_law) (defScope s_law) .none kV doc pm an (.ref c) ct), osl⟩) (hcd : PySem.W.codeIn K (.ref c) "law" = true) (TB : LamX.TabB base mg c P0)
    (hm : ∀ ns, pre ns → ∃ e, b_law (startE 12 [lstI ns]) = .rt (.bl true) e) : FnOk P w K mg base (L2.CX P w) 4 f (PySem.W.fnOf "law" "law" (defArgs s_law) (defBody s_law) (defScope s_law) .none kV doc pm an (.ref c) ct) ["script"] (spLX K [(P0, "law.<locals>.<lambda>")] pre) :=
  law_lam (C := C) lk hcd sc_law (fun A outer s H Ex hS => by
    unfold b_law
    exact (xx_cons (xx_lift (W := WL Ex) (y_set (i := 1) hS (e_call hS (ok_law_cell_at T) T.law_cell_at.b T.law_cell_at.m T.law_cell_at.kp (x_cons (e_var 0) (x_cons e_int x_nil)))))
    (xx_cons (xx_lift (W := WL Ex) (y_set (i := 2) hS (e_op op_addA d_addA (E.toB e_int) (E.toB (e_op op_mod d_mod (b_var 1) (E.toB e_int))))))
    (xx_cons (xx_lift (W := WL Ex) (y_set (i := 3) hS (e_op op_addA d_addA (E.toB e_int) (E.toB (e_op op_mod d_mod (E.toB (e_op op_fdiv d_div (b_var 1) (E.toB e_int))) (E.toB e_int))))))
    (xx_cons (xx_lift (W := WL Ex) (y_if (t_cmp (op_eqA hS.room) d_eqA (E.toB (e_op op_mod d_mod (E.toB (e_op op_fdiv d_div (b_var 1) (E.toB e_int))) (E.toB e_int))) (E.toB e_int) (nomark _)) (z_cons (y_set (i := 2) hS (e_op op_addA d_addA (E.toB e_int) (E.toB (e_op op_mod d_mod (E.toB (e_op op_fdiv d_div (b_var 1) (E.toB e_int))) (E.toB e_int)))))
    (z_one (y_set (i := 3) hS (e_op op_addA d_addA (E.toB e_int) (E.toB (e_op op_mod d_mod (E.toB (e_op op_fdiv d_div (b_var 1) (E.toB e_int))) (E.toB e_int))))))) z_nil))
    (xx_cons (xx_lift (W := WL Ex) (y_set (i := 4) hS (e_call hS (ok_law_pool T) T.law_pool.b T.law_pool.m T.law_pool.kp (x_cons (e_var 0) (x_cons e_int x_nil)))))
    (xx_cons (xx_lift (W := WL Ex) (y_set (i := 5) hS (e_call hS (ok_law_ties T) T.law_ties.b T.law_ties.m T.law_ties.kp (x_cons (e_var 4) (x_cons (e_var 2) (x_cons (e_var 3) x_nil))))))
    (xx_cons (xx_lift (W := WL Ex) (y_set (i := 6) hS (e_web hS T.webM (ok_WebInit T) (x_cons (e_var 2) (x_cons (e_call hS (ok_law_turned T) T.law_turned.b T.law_turned.m T.law_turned.kp (x_cons (e_var 5) (x_cons (e_var 1) x_nil))) x_nil)))))
    (xx_cons (xx_lift (W := WL Ex) (y_set (i := 7) hS (e_call hS (ok_law_nears T) T.law_nears.b T.law_nears.m T.law_nears.kp (x_cons (e_var 5) (x_cons (e_var 2) x_nil)))))
    (xx_cons (xx_lift (W := WL Ex) (y_set (i := 8) hS (e_call hS (ok_law_apart_from T) T.law_apart_from.b T.law_apart_from.m T.law_apart_from.kp (x_cons (e_var 7) (x_cons (e_op op_mod d_mod (E.toB (e_op op_fdiv d_div (b_var 1) (E.toB e_int))) (b_var 2)) x_nil)))))
    (xx_cons (xx_lift (W := WL Ex) (y_if (t_pw (t_or (t_cmp op_notN d_notN (E.toB (e_call hS (ok_apart_call T) T.apart_call.b T.apart_call.m T.apart_call.kp (x_cons (e_var 6) (x_cons (e_var 8) (x_cons (e_var 8) x_nil))))) (E.toB e_non) (nomark _)) (t_or1 (t_cmp op_notN d_notN (E.toB (e_call hS (ok_apart_call T) T.apart_call.b T.apart_call.m T.apart_call.kp (x_cons (e_var 6) (x_cons (e_tup x_nil) (x_cons (e_var 8) x_nil))))) (E.toB e_non) (nomark _))))) (z_one (y_ret e_bl)) z_nil))
    (xx_cons (xx_lift (W := WL Ex) (y_if (t_cmp op_lt d_lt (E.toB (e_callB cl_lenA d_len' T.z_len PySem.boot_len (a_cons (b_var 8) a_nil))) (E.toB e_int) (nomark _)) (z_one (y_ret e_bl)) z_nil))
    (xx_cons (xx_for hS (w_seq (e_var 4)) (g_name (i := 9) hS.nd) (xx_cons (xx_lift (W := WL Ex) (y_set (i := 10) hS (e_op op_addA d_addA (E.toB e_int) (E.toB (e_op op_mod d_mod (b_var 9) (E.toB (e_op op_sub d_sub (E.toB (e_callB cl_lenA d_len' T.z_len PySem.boot_len (a_cons (b_var 8) a_nil))) (E.toB e_int))))))))
    (xx_cons (xx_fgt 11 (y_sortLam (i := 11) (j := 9) hS TB rfl rfl T.z_sorted T.z_range (b_var 2) (mix_of T.law_mixed.F rfl (fun _ _ _ _ _ _ _ _ _ => .of_eq rfl) (by kernel_rfl)) T.law_mixed.m T.law_mixed.kp (lamT_by (fun _ _ _ _ _ _ => rfl) (by kernel_rfl))))
    (xx_one (xx_lift (W := WL Ex) (y_if (t_not (t_val (e_call hS (ok_law_played T) T.law_played.b T.law_played.m T.law_played.kp (x_cons (e_var 6) (x_cons (e_var 7) (x_cons (e_var 8) (x_cons (e_callTy call_tuple_of d_tuple T.z_tuple PyProof.Rows.boot_tuple (a_cons (N.toB (n_callB (cr_sortA hS.room) (d_sorted rfl) T.z_sorted PyProof.Rows.boot_sorted (a_cons (N.toB (n_slL (b_var 11) o_none (o_some (b_var 10)))) a_nil))) a_nil)) (x_cons (e_var 4) x_nil)))))))) (z_one (y_ret e_bl)) z_nil))))))
    (xx_one (xx_lift (W := WL Ex) (y_ret e_bl)))))))))))))))) hm
end
end K45

set_option Elab.async false
set_option linter.all false
set_option maxRecDepth 100000
set_option maxHeartbeats 4000000
namespace S
open PySem PySem.Spec PyProof.Rows L2
/-! plain facts -/
theorem len_le {α : Type} [DecidableEq α] : ∀ (xs ys : List α), xs.Nodup → (∀ x ∈ xs, x ∈ ys) → xs.length ≤ ys.length
  | [], _, _, _ => Nat.zero_le _
  | x :: xs, ys, nd, h => by
    have hx := h x List.mem_cons_self
    have nd' := List.nodup_cons.mp nd
    have := len_le xs (ys.erase x) nd'.2 fun y hy => (List.mem_erase_of_ne (fun z => nd'.1 (by rw [← z]; exact hy))).mpr (h y (List.mem_cons_of_mem _ hy))
    rw [List.length_erase_of_mem hx] at this
    have : 0 < ys.length := List.length_pos_of_mem hx
    simp only [List.length_cons]
    omega
theorem sortI_perm (ns : List Int) : (sortI ns).Perm ns := List.mergeSort_perm _ _
theorem sortI_len (ns : List Int) : (sortI ns).length = ns.length := (sortI_perm ns).length_eq
theorem mem_sortI {a : Int} {ns : List Int} : a ∈ sortI ns ↔ a ∈ ns := (sortI_perm ns).mem_iff
theorem sortI_nodup {ns : List Int} : (sortI ns).Nodup ↔ ns.Nodup := (sortI_perm ns).nodup_iff
/-- a loop that keeps a promise -/
theorem loop_nx {ft : D → DEnv → Option DEnv} {fb : DEnv → Out} {I : List D → DEnv → Prop} (h : ∀ d ds env, I (d :: ds) env → ∃ e1 e, ft d env = some e1 ∧ fb e1 = .nx e ∧ I ds e) :
    ∀ ds env, I ds env → ∃ e, loopFor ft fb ds env = .nx e ∧ I [] e
  | [], env, i => ⟨env, rfl, i⟩
  | d :: ds, env, i => by
    obtain ⟨e1, e, h1, h2, h3⟩ := h d ds env i
    obtain ⟨e', q, r⟩ := loop_nx h ds e h3
    refine ⟨e', ?_, r⟩
    show (match ft d env with | none => Out.bad | some e1 => _) = _
    rw [h1]
    show (match fb e1 with | .nx e => loopFor ft fb ds e | .ct e => loopFor ft fb ds e | .bk e => .nx e | o => o) = _
    rw [h2]
    exact q
/-- a loop that keeps a promise or returns -/
theorem loop_rt {ft : D → DEnv → Option DEnv} {fb : DEnv → Out} {I : List D → DEnv → Prop} {T : D → Prop} (h : ∀ d ds env, I (d :: ds) env → ∃ e1, ft d env = some e1 ∧ ((∃ e, fb e1 = .nx e ∧ I ds e) ∨ ∃ e r, fb e1 = .rt r e ∧ T r)) :
    ∀ ds env, I ds env → (∃ e, loopFor ft fb ds env = .nx e ∧ I [] e) ∨ ∃ e r, loopFor ft fb ds env = .rt r e ∧ T r
  | [], env, i => .inl ⟨env, rfl, i⟩
  | d :: ds, env, i => by
    obtain ⟨e1, h1, h2⟩ := h d ds env i
    have q : loopFor ft fb (d :: ds) env = match fb e1 with | .nx e => loopFor ft fb ds e | .ct e => loopFor ft fb ds e | .bk e => .nx e | o => o := by
      show (match ft d env with | none => Out.bad | some e1 => _) = _
      rw [h1] <;> rfl
    rcases h2 with ⟨e, h2, h3⟩ | ⟨e, r, h2, h3⟩
    · rw [q, h2]
      exact loop_rt h ds e h3
    · exact .inr ⟨e, r, by rw [q, h2], h3⟩
theorem loop_cnt {ft : D → DEnv → Option DEnv} {fb : DEnv → Out} {f : Nat → D} {n : Nat} (I : Nat → DEnv → Prop) (h : ∀ k env, k < n → I k env → ∃ e1 e, ft (f k) env = some e1 ∧ fb e1 = .nx e ∧ I (k + 1) e) {env : DEnv} (i : I 0 env) :
    ∃ e, loopFor ft fb ((List.range n).map f) env = .nx e ∧ I n e := by
  obtain ⟨e, q, m, hm, r⟩ := loop_nx (ft := ft) (fb := fb) (I := fun ds env => ∃ m, (m ≤ n ∧ ds = (List.range' m (n - m)).map f) ∧ I m env) (fun d ds env ⟨m, ⟨hm, e⟩, i⟩ => by
    cases z : n - m with
    | zero => rw [z] at e; cases e
    | succ j =>
      rw [z, List.range'_succ, List.map_cons] at e
      injection e with e1 e2
      subst e1 e2
      obtain ⟨a, b, h1, h2, h3⟩ := h m env (by omega) i
      exact ⟨a, b, h1, h2, m + 1, ⟨by omega, by rw [show n - (m + 1) = j by omega]⟩, h3⟩) ((List.range n).map f) env ⟨0, ⟨Nat.zero_le _, by rw [List.range_eq_range', Nat.sub_zero]⟩, i⟩
  refine ⟨e, q, ?_⟩
  have : n - m = 0 := by
    cases z : n - m with
    | zero => rfl
    | succ j => have := hm.2; rw [z, List.range'_succ] at this; cases this
  have : m = n := by omega
  rw [← this]; exact r
theorem loop_cntR {ft : D → DEnv → Option DEnv} {fb : DEnv → Out} {f : Nat → D} {n : Nat} {T : D → Prop} (I : Nat → DEnv → Prop) (h : ∀ k env, k < n → I k env → ∃ e1, ft (f k) env = some e1 ∧ ((∃ e, fb e1 = .nx e ∧ I (k + 1) e) ∨ ∃ e r, fb e1 = .rt r e ∧ T r)) {env : DEnv} (i : I 0 env) :
    (∃ e, loopFor ft fb ((List.range n).map f) env = .nx e ∧ I n e) ∨ ∃ e r, loopFor ft fb ((List.range n).map f) env = .rt r e ∧ T r := by
  rcases loop_rt (ft := ft) (fb := fb) (T := T) (I := fun ds env => ∃ m, (m ≤ n ∧ ds = (List.range' m (n - m)).map f) ∧ I m env) (fun d ds env ⟨m, ⟨hm, e⟩, i⟩ => by
    cases z : n - m with
    | zero => rw [z] at e; cases e
    | succ j =>
      rw [z, List.range'_succ, List.map_cons] at e
      injection e with e1 e2
      subst e1 e2
      obtain ⟨a, h1, h2⟩ := h m env (by omega) i
      refine ⟨a, h1, ?_⟩
      rcases h2 with ⟨b, h2, h3⟩ | h2
      · exact .inl ⟨b, h2, m + 1, ⟨by omega, by rw [show n - (m + 1) = j by omega]⟩, h3⟩
      · exact .inr h2) ((List.range n).map f) env ⟨0, ⟨Nat.zero_le _, by rw [List.range_eq_range', Nat.sub_zero]⟩, i⟩ with ⟨e, q, m, hm, r⟩ | h
  · refine .inl ⟨e, q, ?_⟩
    have : n - m = 0 := by
      cases z : n - m with
      | zero => rfl
      | succ j => have := hm.2; rw [z, List.range'_succ] at this; cases this
    have : m = n := by omega
    rw [← this]; exact r
  · exact .inr h
theorem q_rng {n : Int} (h : n ≤ 1000000 ∧ -1000000 ≤ n) : itR1 [.int n] = some ((List.range n.toNat).map fun i : Nat => D.int (i : Int)) := if_pos h
theorem q_rng2 {i j : Int} (h : j ≤ 1000000 ∧ -1000000 ≤ j ∧ i ≤ 1000000 ∧ -1000000 ≤ i) : itR2 [.int i, .int j] = some ((List.range (j - i).toNat).map fun n : Nat => D.int (i + (n : Int))) := if_pos h
/-- a comprehension over ints with a test -/
theorem lcGo_filter {α : Type} {ft : D → DEnv → Option DEnv} {fc : DEnv → R Bool} {fe : DEnv → R D} {env : DEnv} (c : α → Bool) (u v : α → D) (h : ∀ a, ∃ e1, ft (u a) env = some e1 ∧ fc e1 = .ok (c a) ∧ (c a = true → fe e1 = .ok (v a))) :
    ∀ xs : List α, lcGo ft fc fe env (xs.map u) = .ok ((xs.filter c).map v)
  | [] => rfl
  | a :: xs => by
    obtain ⟨e1, h1, h2, h3⟩ := h a
    show (match ft (u a) env with | none => R.bad | some e1 => _) = _
    rw [h1]
    show (match fc e1 with | .ok true => _ | .ok false => _ | _ => _) = _
    rw [h2]
    cases q : c a with
    | true =>
      show (match fe e1 with | .ok y => (lcGo ft fc fe env (xs.map u)).map (y :: ·) | _ => .bad) = _
      rw [h3 q]
      show (lcGo ft fc fe env (xs.map u)).map (v a :: ·) = _
      rw [lcGo_filter c u v h xs, List.filter_cons_of_pos q]
      rfl
    | false =>
      show lcGo ft fc fe env (xs.map u) = _
      rw [lcGo_filter c u v h xs, List.filter_cons_of_neg (by rw [q]; exact Bool.false_ne_true)]
/-! pairs -/
def nrm (p : Int × Int) : Int × Int := (minI p.1 p.2, maxI p.1 p.2)
theorem webGo_ok (n : Int) : ∀ (ps f : List (Int × Int)), (∀ p ∈ ps, p.1 ≠ p.2 ∧ 0 ≤ (nrm p).1 ∧ (nrm p).2 < n) → (f ++ ps.map nrm).Nodup → webGo n ps f = some (f ++ ps.map nrm)
  | [], f, _, _ => by simp [webGo]
  | (a, b) :: r, f, h, nd => by
    have h1 := h (a, b) List.mem_cons_self
    have nd' : ((f ++ [nrm (a, b)]) ++ r.map nrm).Nodup := by simpa using nd
    have h2 : nrm (a, b) ∉ f := fun z => by
      have := (List.nodup_append.mp (List.nodup_append.mp nd').1).2.2 _ z _ (List.mem_singleton.mpr rfl)
      exact this rfl
    show (if a = b ∨ minI a b < 0 ∨ n ≤ maxI a b ∨ (minI a b, maxI a b) ∈ f then none else webGo n r (f ++ [(minI a b, maxI a b)])) = _
    rw [if_neg (by
      intro z
      rcases z with z | z | z | z
      · exact h1.1 z
      · have := h1.2.1; simp only [nrm] at this; omega
      · have := h1.2.2; simp only [nrm] at this; omega
      · exact h2 z)]
    have := webGo_ok n r (f ++ [nrm (a, b)]) (fun p hp => h p (List.mem_cons_of_mem _ hp)) nd'
    show webGo n r (f ++ [nrm (a, b)]) = _
    rw [this]; simp
theorem nrm_lt {p : Int × Int} (h : p.1 < p.2) : nrm p = p := by
  unfold nrm minI maxI
  rw [if_neg (by omega), if_pos (by omega)]
theorem nrm_gt {p : Int × Int} (h : p.1 < p.2) : nrm (p.2, p.1) = p := by
  unfold nrm minI maxI
  rw [if_pos (by simp; omega), if_neg (by simp; omega)]
/-! neighbours -/
theorem addTo_get (nss : List (List Int)) (i j : Nat) (b : Int) (hi : i < nss.length) : (addTo nss i b).getD j [] = if i = j then nss.getD j [] ++ [b] else nss.getD j [] := by
  unfold addTo
  simp only [List.getD_eq_getElem?_getD]
  by_cases h : i = j
  · subst h; rw [List.getElem?_set_self hi]; simp
  · rw [List.getElem?_set_ne h]; simp [h]
theorem adj_mem {n : Nat} : ∀ (ps : List (Int × Int)) (nss : List (List Int)) (hn : nss.length = n) (hr : ∀ p ∈ ps, 0 ≤ p.1 ∧ p.1 < n ∧ 0 ≤ p.2 ∧ p.2 < n) (a b : Int) (ha : 0 ≤ a) (hb : 0 ≤ b),
    b ∈ (adjGo ps nss).getD a.toNat [] ↔ b ∈ nss.getD a.toNat [] ∨ (a, b) ∈ ps ∨ (b, a) ∈ ps
  | [], nss, _, _, a, b, _, _ => by simp [adjGo]
  | (p, q) :: r, nss, hn, hr, a, b, ha, hb => by
    have h1 := hr (p, q) List.mem_cons_self
    simp only at h1
    show b ∈ (adjGo r (addTo (addTo nss p.toNat q) q.toNat p)).getD a.toNat [] ↔ _
    rw [adj_mem (n := n) r _ (by rw [addTo_length, addTo_length, hn]) (fun x hx => hr x (List.mem_cons_of_mem _ hx)) a b ha hb]
    rw [addTo_get _ _ _ _ (by rw [addTo_length]; omega), addTo_get _ _ _ _ (by omega)]
    simp only [List.mem_cons, Prod.mk.injEq]
    by_cases e1 : q.toNat = a.toNat <;> by_cases e2 : p.toNat = a.toNat
    · have z1 : q = a := by omega
      have z2 : p = a := by omega
      subst z1; subst z2
      simp only [if_true, List.mem_append, List.mem_singleton]
      grind
    · have z1 : q = a := by omega
      have z2 : ¬ a = p := by omega
      subst z1
      simp only [e2, if_true, if_false, List.mem_append, List.mem_singleton]
      grind
    · have z1 : ¬ a = q := by omega
      have z2 : p = a := by omega
      subst z2
      simp only [e1, if_true, if_false, List.mem_append, List.mem_singleton]
      grind
    · have z1 : ¬ a = q := by omega
      have z2 : ¬ a = p := by omega
      simp only [e1, e2, if_false]
      grind
end S

set_option Elab.async false
set_option linter.all false
set_option maxRecDepth 100000
set_option maxHeartbeats 4000000
namespace K45
open PySem PySem.Spec PyProof.Rows L2 S
theorem eq_cell (ns : List Int) (i : Nat) : m_law_cell_at [lstI ns, .int i] = .ok (.int (ns.getD i 0)) := by
  unfold m_law_cell_at runFn b_law_cell_at startE lstI
  simp [mVar, mVarB]
  by_cases h : i < ns.length
  · have : gIx (.lst (ns.map .int)) (.int (i : Int)) = some (.int (ns.getD i 0)) := q_ixL (by omega) (by simp [List.getElem?_map, List.getElem?_eq_getElem h, List.getD_eq_getElem?_getD])
    simp [h, this]
  · simp [h, List.getElem?_eq_none (Nat.le_of_not_lt h)]
theorem eq_mixed (c i : Int) : m_law_mixed [.int c, .int i] = .ok (.int (mixI c i)) := by
  unfold m_law_mixed runFn b_law_mixed startE
  have h1 : ∀ a b : Int, gMul (.int (a % 2147483647)) (.int b) = some (.int (a % 2147483647 * b)) := fun a b => q_mul (.inl (by omega))
  have h2 : ∀ a : Int, gMul (.int a) (.int 48271) = some (.int (a * 48271)) := fun a => q_mul (.inr (by omega))
  have h3 : ∀ a : Int, gMod (.int a) (.int 2147483647) = some (.int (a % 2147483647)) := fun a => q_mod (by omega)
  have h4 : ∀ a : Int, gMod (.int a) (.int 2147483629) = some (.int (a % 2147483629)) := fun a => q_mod (by omega)
  simp [mVar, mVarB, h1, h2, h3, h4, mixI]
theorem eq_whole (c : Int) : m_law_whole [.int c] = .ok (.bl true) := rfl
theorem eq_whole_non : m_law_whole [.non] = .ok (.bl false) := rfl
/-! ### the pool -/
theorem pickG_map {α β : Type} (f : α → β) (xs : List α) (lo hi st : Option Int) : pickG (xs.map f) lo hi st = (pickG xs lo hi st).map f := by
  unfold pickG
  rw [List.length_map, List.map_filterMap]
  congr 1
  funext i
  simp
theorem eq_pool (ns : List Int) : ∃ ps : List Int, ps ≠ [] ∧ m_law_pool [lstI ns, .int 1] = .ok (lstI ps) := by
  unfold m_law_pool runFn b_law_pool startE lstI
  simp [mVar, mVarB, mSl3, q_rng]
  obtain ⟨e, q, cs, x3, x4, he, h1, h2⟩ := loop_cnt (n := 24) (f := fun i : Nat => D.int (i : Int)) (ft := tgN 3) (fb := sSeq (sSetN 4 (mSl3 (mVarB 0) (mPart (mOp gAdd (mVarB 1) (mVarB 3))) mPartN (mPart (mC (D.int 24)))))
                    (sIf (mTest (mOp gNe (mVarB 4) (mOfN (mLst mNil))))
                      (sMt1 isLst oApp 2 (mAp gSum (mCons (mVarB 4) mNil))) sNx))
    (fun k env => ∃ (cs : List Int) (x3 x4 : Option Sl), env = [some (Sl.fr (D.lst (List.map D.int ns))), some (Sl.fr (D.int 1)), some (Sl.ow none (Own.lst (cs.map D.int))), x3, x4] ∧ cs ≠ [] ∧ cs.length ≤ k + 1)
    (fun k env hk ⟨cs, x3, x4, he, h1, h2⟩ => by
      subst he
      have hq : ∀ x : Own, sMt1 isLst oApp 2 (mAp gSum (mCons (mVarB 4) mNil)) [some (Sl.fr (D.lst (List.map D.int ns))), some (Sl.fr (D.int 1)), some (Sl.ow none (Own.lst (cs.map D.int))), some (Sl.fr (D.int k)), some (Sl.ow none x)] = _ := fun x => r_app (i := 2) (q := none) (ds := cs.map D.int) (fa := mAp gSum (mCons (mVarB 4) mNil)) (env := [some (Sl.fr (D.lst (List.map D.int ns))), some (Sl.fr (D.int 1)), some (Sl.ow none (Own.lst (cs.map D.int))), some (Sl.fr (D.int k)), some (Sl.ow none x)]) rfl (by simp; omega)
      by_cases z : pickG ns (some (1 + (k : Int))) none (some 24) = []
      · refine ⟨_, _, rfl, by simp [mVar, mVarB, mSl3, pickG_map, tgN, z]; rfl, cs, _, _, rfl, h1, by omega⟩
      · refine ⟨_, [some (Sl.fr (D.lst (List.map D.int ns))), some (Sl.fr (D.int 1)), some (Sl.ow none (Own.lst ((cs ++ [(pickG ns (some (1 + (k : Int))) none (some 24)).sum]).map D.int))), some (Sl.fr (D.int k)), some (Sl.ow none (Own.lst ((pickG ns (some (1 + (k : Int))) none (some 24)).map D.int)))], rfl, ?_, _, _, _, rfl, by simp, by simp; omega⟩
        simp [mVar, mVarB, mSl3, pickG_map, tgN, z, hq, gSum])
    (env := [some (Sl.fr (D.lst (List.map D.int ns))), some (Sl.fr (D.int 1)), some (Sl.ow none (Own.lst [D.int ns.length])), none, none]) ⟨[(ns.length : Int)], none, none, rfl, List.cons_ne_nil _ _, Nat.le_refl _⟩
  subst he
  refine ⟨cs, h1, ?_⟩
  rw [q]
  simp [gFrz, mVar]
end K45

set_option Elab.async false
set_option linter.all false
set_option maxRecDepth 100000
set_option maxHeartbeats 4000000
namespace S
open PySem PySem.Spec PyProof.Rows L2
theorem mLc_filter {α : Type} {own : List Nat} {fi : DEnv → R (List D)} {ft : D → DEnv → Option DEnv} {fc : DEnv → R Bool} {fe : DEnv → R D} {env : DEnv} (c : α → Bool) (u v : α → D) (xs : List α) (hi : fi env = .ok (xs.map u)) (hl : xs.length ≤ 1000000) (ho : own.all (notOw env) = true)
    (h : ∀ a, ∃ e1, ft (u a) (wipeE env own) = some e1 ∧ fc e1 = .ok (c a) ∧ (c a = true → fe e1 = .ok (v a))) : mLc own fi ft fc fe env = .ok (.lst ((xs.filter c).map v)) := by
  unfold mLc
  rw [hi, R.bind_ok, if_pos ⟨by rw [List.length_map]; exact hl, ho⟩, lcGo_filter c u v h]
  rfl
end S
namespace K45
open PySem PySem.Spec PyProof.Rows L2 S
def tupI (ns : List Int) : D := .tup (ns.map .int)
theorem eq_call (w : D) (some_ st : List Int) : ∃ r, m_apart_call [w, tupI some_, tupI st] = .ok r ∧ ((r = .non ∧ some_.filter (fun p => !decide (p ∈ st)) = []) ∨ ∃ p, r = .int p ∧ (some_.filter (fun p => !decide (p ∈ st)))[0]? = some p) := by
  unfold m_apart_call runFn b_apart_call startE tupI
  simp [mVar, mVarB]
  rcases loop_rt (ft := tgN 3) (fb := (sIf (mTest (mOp gNin (mVarB 3) (mVarB 2))) (sRet (mVar 3)) sNx)) (T := fun r => ∃ p, r = .int p ∧ (some_.filter (fun p => !decide (p ∈ st)))[0]? = some p)
    (I := fun ds env => ∃ (pre zs : List Int) (x : Option Sl), ds = zs.map .int ∧ some_ = pre ++ zs ∧ pre.filter (fun p => !decide (p ∈ st)) = [] ∧ env = [some (Sl.fr w), some (Sl.fr (tupI some_)), some (Sl.fr (tupI st)), x])
    (fun d ds env ⟨pre, zs, x, h1, h2, h3, h4⟩ => by
      subst h4
      cases zs with
      | nil => cases h1
      | cons z zs =>
        injection h1 with h5 h6
        subst h5 h6
        refine ⟨_, rfl, ?_⟩
        by_cases hz : z ∈ st
        · refine .inl ⟨[some (Sl.fr w), some (Sl.fr (tupI some_)), some (Sl.fr (tupI st)), some (Sl.fr (.int z))], ?_, pre ++ [z], zs, _, rfl, by simp [h2], by rw [List.filter_append, h3]; simp [hz], rfl⟩
          simp [mVar, mVarB, tgN, tupI, hz]
        · refine .inr ⟨[some (Sl.fr w), some (Sl.fr (tupI some_)), some (Sl.fr (tupI st)), some (Sl.fr (.int z))], .int z, ?_, z, rfl, ?_⟩
          · simp [mVar, mVarB, tgN, tupI, hz]
          · rw [h2, List.filter_append, h3, List.nil_append, List.filter_cons_of_pos (by simp [hz])]; rfl)
    (some_.map .int) [some (Sl.fr w), some (Sl.fr (tupI some_)), some (Sl.fr (tupI st)), none] ⟨[], some_, none, rfl, rfl, rfl, rfl⟩ with ⟨e, q, pre, zs, x, h1, h2, h3, h4⟩ | ⟨e, r, q, hr⟩
  · have hz : zs = [] := by cases zs with
      | nil => rfl
      | cons z zs => cases h1
    subst hz
    rw [List.append_nil] at h2
    refine ⟨.non, ?_, .inl ⟨rfl, by rw [h2]; simpa using h3⟩⟩
    show (match (loopFor _ _ _ [some (Sl.fr w), some (Sl.fr (tupI some_)), some (Sl.fr (tupI st)), none]).thn _ with | .nx e => R.ok D.non | .rt d e => .ok d | .xc e c n => .exc c n | _ => .bad) = _
    rw [q]; simp
  · refine ⟨r, ?_, .inr hr⟩
    show (match (loopFor _ _ _ [some (Sl.fr w), some (Sl.fr (tupI some_)), some (Sl.fr (tupI st)), none]).thn _ with | .nx e => R.ok D.non | .rt d e => .ok d | .xc e c n => .exc c n | _ => .bad) = _
    rw [q]; simp
/-! ### the ties -/
def GP (o k : Int) (ps : List (Int × Int)) : Prop := ps.Nodup ∧ (∀ p ∈ ps, 0 ≤ p.1 ∧ p.1 < p.2 ∧ (p.2 < o ∨ (p.2 = o ∧ p.1 < k))) ∧ (ps.length : Int) ≤ 60 * o + k
theorem GP.add {o k : Int} {ps : List (Int × Int)} (h : GP o k ps) (h0 : 0 ≤ k) (hk : k < o) : GP o (k + 1) (ps ++ [(k, o)]) := by
  refine ⟨?_, fun p hp => ?_, by have := h.2.2; simp; omega⟩
  · rw [List.nodup_append]
    refine ⟨h.1, by simp, fun a ha b hb => ?_⟩
    rw [List.mem_singleton.mp hb]
    intro z; subst z
    have := h.2.1 _ ha
    simp at this
  · rcases List.mem_append.mp hp with hp | hp
    · have := h.2.1 p hp; omega
    · rw [List.mem_singleton.mp hp]; simp; omega
theorem GP.keep {o k : Int} {ps : List (Int × Int)} (h : GP o k ps) : GP o (k + 1) ps := ⟨h.1, fun p hp => by have := h.2.1 p hp; omega, by have := h.2.2; omega⟩
theorem GP.next {o : Int} {ps : List (Int × Int)} (h : GP o o ps) (h1 : o ≤ 60) : GP (o + 1) 0 ps := ⟨h.1, fun p hp => by have := h.2.1 p hp; omega, by have := h.2.2; omega⟩
theorem eq_ties (pool : List Int) (hp : pool ≠ []) (many thick : Int) (h1 : 1 ≤ many) (h2 : many ≤ 60) : ∃ ps : List (Int × Int), m_law_ties [lstI pool, .int many, .int thick] = .ok (.lst (ps.map pr)) ∧ GP many 0 ps := by
  unfold m_law_ties runFn b_law_ties startE
  have r2 : itR2 [.int 1, .int many] = some ((List.range (many - 1).toNat).map fun n : Nat => D.int (1 + (n : Int))) := q_rng2 (by omega)
  simp [mVar, mVarB, r2]
  have hpl : 0 < pool.length := List.length_pos_iff.mpr hp
  obtain ⟨e, q, ps, a, x5, x6, x7, he, ha, hg⟩ := loop_cnt (n := (many - 1).toNat) (f := fun n : Nat => D.int (1 + (n : Int))) (ft := tgN 5) (fb := (sFor (mItA itR1 (mCons (mVarB 5) mNil)) (tgN 6) (sSeq (sSet 7 (mOp gIx (mVarB 0) (mOp gMod (mVarB 4) (mAp gLen (mCons (mVarB 0) mNil))))) (sSeq (sSet 4 (mOp gAdd (mVarB 4) (mC (.int 1)))) (sIf (mTest (mOp gLt (mOp gMod (mCallN 2 m_law_mixed (mCons (mVar 7) (mCons (mOp gAdd (mOp gMul (mC (.int 7)) (mVarB 6)) (mOp gMul (mC (.int 61)) (mVarB 5))) mNil))) (mC (.int 6))) (mVarB 2))) (sMt1 isLst oApp 3 (mTup (mCons (mVar 6) (mCons (mVar 5) mNil)))) sNx)))))
    (env := [some (Sl.fr (lstI pool)), some (Sl.fr (D.int many)), some (Sl.fr (D.int thick)), some (Sl.ow none (.lst [])), some (Sl.fr (D.int 0)), none, none, none])
    (fun k env => ∃ (ps : List (Int × Int)) (a : Int) (x5 x6 x7 : Option Sl), env = [some (Sl.fr (lstI pool)), some (Sl.fr (D.int many)), some (Sl.fr (D.int thick)), some (Sl.ow none (.lst (ps.map pr))), some (Sl.fr (D.int a)), x5, x6, x7] ∧ 0 ≤ a ∧ GP (1 + (k : Int)) 0 ps)
    (fun k env hk ⟨ps, a, x5, x6, x7, he, ha, hg⟩ => by
      subst he
      have hr : itR1 [.int (1 + (k : Int))] = some ((List.range (1 + k)).map fun n : Nat => D.int (n : Int)) := by
        rw [q_rng (by omega), show (1 + (k : Int)).toNat = 1 + k by omega]
      obtain ⟨e, q, ps2, a2, y6, y7, he, ha2, hg2⟩ := loop_cnt (n := 1 + k) (f := fun n : Nat => D.int (n : Int)) (ft := tgN 6) (fb := (sSeq (sSet 7 (mOp gIx (mVarB 0) (mOp gMod (mVarB 4) (mAp gLen (mCons (mVarB 0) mNil))))) (sSeq (sSet 4 (mOp gAdd (mVarB 4) (mC (.int 1)))) (sIf (mTest (mOp gLt (mOp gMod (mCallN 2 m_law_mixed (mCons (mVar 7) (mCons (mOp gAdd (mOp gMul (mC (.int 7)) (mVarB 6)) (mOp gMul (mC (.int 61)) (mVarB 5))) mNil))) (mC (.int 6))) (mVarB 2))) (sMt1 isLst oApp 3 (mTup (mCons (mVar 6) (mCons (mVar 5) mNil)))) sNx))))
        (env := [some (Sl.fr (lstI pool)), some (Sl.fr (D.int many)), some (Sl.fr (D.int thick)), some (Sl.ow none (.lst (ps.map pr))), some (Sl.fr (D.int a)), some (Sl.fr (.int (1 + (k : Int)))), x6, x7])
        (fun j env => ∃ (ps : List (Int × Int)) (a : Int) (x6 x7 : Option Sl), env = [some (Sl.fr (lstI pool)), some (Sl.fr (D.int many)), some (Sl.fr (D.int thick)), some (Sl.ow none (.lst (ps.map pr))), some (Sl.fr (D.int a)), some (Sl.fr (.int (1 + (k : Int)))), x6, x7] ∧ 0 ≤ a ∧ GP (1 + (k : Int)) j ps)
        (fun j env hj ⟨ps, a, x6, x7, he, ha, hg⟩ => by
          subst he
          have hix : ∃ c : Int, gIx (lstI pool) (.int (a % (pool.length : Int))) = some (.int c) := by
            have hb : (a % (pool.length : Int)).toNat < pool.length := by
              have := Int.emod_nonneg a (show (pool.length : Int) ≠ 0 by omega)
              have := Int.emod_lt_of_pos a (show (0 : Int) < pool.length by omega)
              omega
            exact ⟨pool[(a % (pool.length : Int)).toNat], q_ixL (Int.emod_nonneg _ (by omega)) (by rw [List.getElem?_map, List.getElem?_eq_getElem hb]; rfl)⟩
          obtain ⟨c, hc⟩ := hix
          have hm : gMod (.int a) (.int (pool.length : Int)) = some (.int (a % (pool.length : Int))) := q_mod (by omega)
          have hl : gLen [lstI pool] = some (.int pool.length) := by unfold lstI; rw [q_len, List.length_map]
          have m1 : gMul (.int 7) (.int (j : Int)) = some (.int (7 * (j : Int))) := q_mul (.inl (by omega))
          have m2 : gMul (.int 61) (.int (1 + (k : Int))) = some (.int (61 * (1 + (k : Int)))) := q_mul (.inl (by omega))
          have m3 : ∀ z, gMod (.int z) (.int 6) = some (.int (z % 6)) := fun z => q_mod (by omega)
          have hq := r_app (i := 3) (q := none) (ds := ps.map pr) (fa := mTup (mCons (mVar 6) (mCons (mVar 5) mNil))) (env := [some (Sl.fr (lstI pool)), some (Sl.fr (D.int many)), some (Sl.fr (D.int thick)), some (Sl.ow none (.lst (ps.map pr))), some (Sl.fr (D.int (a + 1))), some (Sl.fr (.int (1 + (k : Int)))), some (Sl.fr (.int (j : Int))), some (Sl.fr (.int c))]) rfl (by
            have := hg.2.2; rw [List.length_map]; omega)
          by_cases z : mixI c (7 * (j : Int) + 61 * (1 + (k : Int))) % 6 < thick
          · refine ⟨_, [some (Sl.fr (lstI pool)), some (Sl.fr (D.int many)), some (Sl.fr (D.int thick)), some (Sl.ow none (.lst ((ps ++ [((j : Int), 1 + (k : Int))]).map pr))), some (Sl.fr (D.int (a + 1))), some (Sl.fr (.int (1 + (k : Int)))), some (Sl.fr (.int (j : Int))), some (Sl.fr (.int c))], rfl, ?_, _, _, _, _, rfl, by omega, hg.add (by omega) (by omega)⟩
            simp [mVar, mVarB, tgN, hl, hm, hc, m1, m2, m3, eq_mixed, z, hq]
            rfl
          · refine ⟨_, [some (Sl.fr (lstI pool)), some (Sl.fr (D.int many)), some (Sl.fr (D.int thick)), some (Sl.ow none (.lst (ps.map pr))), some (Sl.fr (D.int (a + 1))), some (Sl.fr (.int (1 + (k : Int)))), some (Sl.fr (.int (j : Int))), some (Sl.fr (.int c))], rfl, ?_, _, _, _, _, rfl, by omega, hg.keep⟩
            simp [mVar, mVarB, tgN, hl, hm, hc, m1, m2, m3, eq_mixed, z])
        ⟨ps, a, x6, x7, rfl, ha, hg⟩
      refine ⟨_, e, rfl, ?_, ps2, a2, _, _, _, he, ha2, ?_⟩
      · simp [mVarB, tgN, hr]
        exact q
      · have := GP.next (o := 1 + (k : Int)) (by simpa using hg2) (by omega)
        rw [show (1 + ((k + 1 : Nat) : Int)) = 1 + (k : Int) + 1 by omega]
        exact this)
    ⟨[], 0, none, none, none, rfl, Int.le_refl _, ⟨List.nodup_nil, (fun p hp => nomatch hp), by simp⟩⟩
  refine ⟨ps, ?_, ?_⟩
  · subst he
    show (match (loopFor _ _ _ [some (Sl.fr (lstI pool)), some (Sl.fr (D.int many)), some (Sl.fr (D.int thick)), some (Sl.ow none (.lst [])), some (Sl.fr (D.int 0)), none, none, none]).thn _ with | .nx e => R.ok D.non | .rt d e => .ok d | .xc e c n => .exc c n | _ => .bad) = _
    rw [show many.toNat - 1 = (many - 1).toNat by omega, q]
    simp [gFrz, mVar]
  · rw [show (1 + (((many - 1).toNat : Nat) : Int)) = many by omega] at hg
    exact hg
end K45

set_option Elab.async false
set_option linter.all false
set_option maxRecDepth 100000
set_option maxHeartbeats 4000000
namespace K45
open PySem PySem.Spec PyProof.Rows L2 S
theorem eq_turned (ps : List (Int × Int)) (hl : ps.length ≤ 10000) (hp : ∀ p ∈ ps, p.1 < p.2) (cell : Int) : ∃ told : List (Int × Int), m_law_turned [.lst (ps.map pr), .int cell] = .ok (.lst (told.map pr)) ∧ (told.map nrm = ps ∨ told.map nrm = ps.reverse) := by
  unfold m_law_turned runFn b_law_turned startE
  have hr : itR1 [.int (ps.length : Int)] = some ((List.range ps.length).map fun n : Nat => D.int (n : Int)) := by
    rw [q_rng (by omega), Int.toNat_natCast]
  have m2 : ∀ z, gMod (.int z) (.int 2) = some (.int (z % 2)) := fun z => q_mod (by omega)
  simp [mVar, mVarB, hr]
  obtain ⟨e, q, told, x3, he, hg⟩ := loop_cnt (n := ps.length) (f := fun n : Nat => D.int (n : Int)) (ft := tgN 3) (fb := (sIf (mTest (mOp gEq (mOp gMod (mCallN 2 m_law_mixed (mCons (mVar 1) (mCons (mVar 3) mNil))) (mC (.int 2))) (mC (.int 0)))) (sMt1 isLst oApp 2 (mOp gIx (mVarB 0) (mVarB 3))) (sMt1 isLst oApp 2 (mTup (mCons (mOp gIx (mOp gIx (mVarB 0) (mVarB 3)) (mC (.int 1))) (mCons (mOp gIx (mOp gIx (mVarB 0) (mVarB 3)) (mC (.int 0))) mNil))))))
    (env := [some (Sl.fr (.lst (ps.map pr))), some (Sl.fr (D.int cell)), some (Sl.ow none (.lst [])), none])
    (fun k env => ∃ (told : List (Int × Int)) (x3 : Option Sl), env = [some (Sl.fr (.lst (ps.map pr))), some (Sl.fr (D.int cell)), some (Sl.ow none (.lst (told.map pr))), x3] ∧ told.map nrm = ps.take k)
    (fun k env hk ⟨told, x3, he, hg⟩ => by
      subst he
      have h1 : gIx (.lst (ps.map pr)) (.int (k : Int)) = some (pr ps[k]) := q_ixL (by omega) (by simp [List.getElem?_map, List.getElem?_eq_getElem hk])
      have h2 : gIx (pr ps[k]) (.int 0) = some (.int ps[k].1) := rfl
      have h3 : gIx (pr ps[k]) (.int 1) = some (.int ps[k].2) := rfl
      have hlt := hp ps[k] (List.getElem_mem hk)
      have hln : told.length = k := by have := congrArg List.length hg; simp at this; omega
      have hq : ∀ fa, sMt1 isLst oApp 2 fa [some (Sl.fr (.lst (ps.map pr))), some (Sl.fr (D.int cell)), some (Sl.ow none (.lst (told.map pr))), some (Sl.fr (.int (k : Int)))] = _ := fun fa => r_app (i := 2) (q := none) (ds := told.map pr) (fa := fa) (env := [some (Sl.fr (.lst (ps.map pr))), some (Sl.fr (D.int cell)), some (Sl.ow none (.lst (told.map pr))), some (Sl.fr (.int (k : Int)))]) rfl (by rw [List.length_map]; omega)
      by_cases z : mixI cell (k : Int) % 2 = 0
      · refine ⟨_, [some (Sl.fr (.lst (ps.map pr))), some (Sl.fr (D.int cell)), some (Sl.ow none (.lst ((told ++ [ps[k]]).map pr))), some (Sl.fr (.int (k : Int)))], rfl, ?_, _, _, rfl, ?_⟩
        · simp [mVar, mVarB, tgN, eq_mixed, m2, z, hq, h1]
        · rw [List.map_append, hg, List.take_succ, List.getElem?_eq_getElem hk]
          show _ ++ [nrm ps[k]] = _
          rw [nrm_lt hlt]; rfl
      · refine ⟨_, [some (Sl.fr (.lst (ps.map pr))), some (Sl.fr (D.int cell)), some (Sl.ow none (.lst ((told ++ [(ps[k].2, ps[k].1)]).map pr))), some (Sl.fr (.int (k : Int)))], rfl, ?_, _, _, rfl, ?_⟩
        · simp [mVar, mVarB, tgN, eq_mixed, m2, z, hq, h1, h2, h3]
          rfl
        · rw [List.map_append, hg, List.take_succ, List.getElem?_eq_getElem hk]
          show _ ++ [nrm (ps[k].2, ps[k].1)] = _
          rw [nrm_gt hlt]; rfl)
    ⟨[], none, rfl, by simp⟩
  subst he
  rw [List.take_length] at hg
  have q2 : loopFor (tgN 3) ((sIf (mTest (mOp gEq (mOp gMod (mCallN 2 m_law_mixed (mCons (mVar 1) (mCons (mVar 3) mNil))) (mC (.int 2))) (mC (.int 0)))) (sMt1 isLst oApp 2 (mOp gIx (mVarB 0) (mVarB 3))) (sMt1 isLst oApp 2 (mTup (mCons (mOp gIx (mOp gIx (mVarB 0) (mVarB 3)) (mC (.int 1))) (mCons (mOp gIx (mOp gIx (mVarB 0) (mVarB 3)) (mC (.int 0))) mNil)))))) ((List.range ps.length).map fun n : Nat => D.int (n : Int)) [some (Sl.fr (.lst (ps.map pr))), some (Sl.fr (D.int cell)), some (Sl.ow none (.lst [])), none] = _ := q
  by_cases z : cell % 2 = 1
  · refine ⟨told.reverse, ?_, .inr ?_⟩
    · rw [q2]
      have : sMt0 isLst oRev 2 [some (Sl.fr (.lst (ps.map pr))), some (Sl.fr (D.int cell)), some (Sl.ow none (.lst (told.map pr))), x3] = .nx [some (Sl.fr (.lst (ps.map pr))), some (Sl.fr (D.int cell)), some (Sl.ow none (.lst (told.map pr).reverse)), x3] := rfl
      simp [mVar, mVarB, m2, z, this, gFrz]
    · rw [List.map_reverse, hg]
  · refine ⟨told, ?_, .inl hg⟩
    rw [q2]
    simp [mVar, mVarB, m2, z, gFrz]
theorem eq_web (n : Int) (h1 : 1 ≤ n) (h2 : n ≤ 60) (told ps : List (Int × Int)) (hp : ∀ p ∈ ps, 0 ≤ p.1 ∧ p.1 < p.2 ∧ p.2 < n) (nd : ps.Nodup) (hl : ps.length ≤ 10000) (ht : told.map nrm = ps ∨ told.map nrm = ps.reverse) : ∃ w, m_Web [.int n, .lst (told.map pr)] = .ok w := by
  have hm : ∀ p ∈ told, nrm p ∈ ps := fun p hp => by
    rcases ht with e | e
    · rw [← e]; exact List.mem_map_of_mem hp
    · have : nrm p ∈ ps.reverse := by rw [← e]; exact List.mem_map_of_mem hp
      exact List.mem_reverse.mp this
  have hn : (told.map nrm).Nodup := by
    rcases ht with e | e
    · rw [e]; exact nd
    · rw [e]; exact (List.reverse_perm ps).nodup_iff.mpr nd
  have hln : told.length ≤ 100000 := by
    rcases ht with e | e
    · have := congrArg List.length e; simp at this; omega
    · have := congrArg List.length e; simp at this; omega
  have hg := webGo_ok n told [] (fun p hp' => by
    have h := hp _ (hm p hp')
    refine ⟨fun z => ?_, h.1, h.2.2⟩
    have := h.2.1
    unfold nrm minI maxI at this
    rw [z] at this
    simp at this) (by simpa using hn)
  refine ⟨.obj (.int n) (.tup ((sortP (told.map nrm)).map pr)), ?_⟩
  show (match (some (told.map pr) : Option (List D)).bind prs with | some ps => _ | none => R.bad) = _
  rw [Option.bind_some, prs_map]
  show (if told.length ≤ 100000 then (if 1 ≤ n ∧ n ≤ 60 then (match webGo n told [] with
        | some f => R.ok (D.obj (.int n) (.tup ((sortP f).map pr)))
        | none => .exc "BadTie" none) else .exc "BadPlaces" none) else .bad) = _
  rw [if_pos hln, if_pos ⟨h1, h2⟩, hg]
  rfl
theorem eq_nears (n : Int) (h1 : 1 ≤ n) (h2 : n ≤ 60) (ps : List (Int × Int)) (hp : ∀ p ∈ ps, 0 ≤ p.1 ∧ p.1 < p.2 ∧ p.2 < n) (hl : ps.length ≤ 10000) : m_nears [.lst (ps.map pr), .int n] = .ok (.lst ((adjOf n.toNat ps).map lstI)) := by
  show (match (some (ps.map pr) : Option (List D)).bind prs with | some ps => (if 0 ≤ n ∧ n ≤ 1000 ∧ ps.length ≤ 10000 ∧ inRg n ps = true then R.ok (D.lst ((adjOf n.toNat ps).map lstI)) else .bad) | none => R.bad) = _
  rw [Option.bind_some, prs_map]
  show (if 0 ≤ n ∧ n ≤ 1000 ∧ ps.length ≤ 10000 ∧ inRg n ps = true then R.ok (D.lst ((adjOf n.toNat ps).map lstI)) else .bad) = _
  rw [if_pos ⟨by omega, by omega, hl, List.all_eq_true.mpr fun p hq => decide_eq_true (by have := hp p hq; omega)⟩]
/-- who stands beside whom -/
structure Adj (n : Int) (adj : List (List Int)) : Prop where
  pos : 1 ≤ n
  top : n ≤ 60
  len : adj.length = n.toNat
  sym : ∀ a b : Int, 0 ≤ a → a < n → 0 ≤ b → b < n → b ∈ adj.getD a.toNat [] → a ∈ adj.getD b.toNat []
  irr : ∀ a : Int, 0 ≤ a → a < n → a ∉ adj.getD a.toNat []
  row : ∀ a : Int, (adj.getD a.toNat []).length ≤ 1000000
theorem Adj.at {n : Int} {adj : List (List Int)} (A : Adj n adj) {a : Int} (h0 : 0 ≤ a) (h1 : a < n) : gIx (.lst (adj.map lstI)) (.int a) = some (lstI (adj.getD a.toNat [])) := by
  have hl := A.len
  have hi : a.toNat < adj.length := by omega
  exact q_ixL h0 (by simp [List.getElem?_map, List.getElem?_eq_getElem hi, List.getD_eq_getElem?_getD])
theorem row_len : ∀ (ps : List (Int × Int)) (nss : List (List Int)) (i : Nat), ((adjGo ps nss).getD i []).length ≤ (nss.getD i []).length + 2 * ps.length
  | [], nss, i => by simp [adjGo]
  | (a, b) :: r, nss, i => by
    have h1 : ∀ (nss : List (List Int)) (j : Nat) (c : Int), ((addTo nss j c).getD i []).length ≤ (nss.getD i []).length + 1 := fun nss j c => by
      by_cases hj : j < nss.length
      · rw [addTo_get _ _ _ _ hj]
        split
        · simp
        · omega
      · unfold addTo
        rw [List.set_eq_of_length_le (by omega)]; omega
    have h2 := row_len r (addTo (addTo nss a.toNat b) b.toNat a) i
    have h3 := h1 (addTo nss a.toNat b) b.toNat a
    have h4 := h1 nss a.toNat b
    show ((adjGo r (addTo (addTo nss a.toNat b) b.toNat a)).getD i []).length ≤ _
    simp only [List.length_cons]
    omega
theorem adj_of (n : Int) (h1 : 1 ≤ n) (h2 : n ≤ 60) (ps : List (Int × Int)) (hp : ∀ p ∈ ps, 0 ≤ p.1 ∧ p.1 < p.2 ∧ p.2 < n) (hl : ps.length ≤ 10000) : Adj n (adjOf n.toNat ps) := by
  have hg : ∀ i : Nat, (adjOf n.toNat ps).getD i [] = sortI ((adjGo ps (List.replicate n.toNat [])).getD i []) := fun i => by
    unfold adjOf
    simp only [List.getD_eq_getElem?_getD, List.getElem?_map]
    cases (adjGo ps (List.replicate n.toNat []))[i]? <;> simp [sortI]
  have hm : ∀ a b : Int, 0 ≤ a → 0 ≤ b → (b ∈ (adjOf n.toNat ps).getD a.toNat [] ↔ (a, b) ∈ ps ∨ (b, a) ∈ ps) := fun a b ha hb => by
    rw [hg, mem_sortI, adj_mem (n := n.toNat) ps _ List.length_replicate (fun p h => by have := hp p h; omega) a b ha hb]
    have : b ∉ (List.replicate n.toNat ([] : List Int)).getD a.toNat [] := by
      rw [List.getD_eq_getElem?_getD, List.getElem?_replicate]
      split <;> simp
    exact or_iff_right this
  refine ⟨h1, h2, by unfold adjOf; rw [List.length_map, adjGo_length, List.length_replicate], fun a b a0 a1 b0 b1 h => ?_, fun a a0 a1 h => ?_, fun a => ?_⟩
  · rw [hm _ _ a0 b0] at h
    rw [hm _ _ b0 a0]
    exact h.symm
  · rw [hm _ _ a0 a0] at h
    rcases h with h | h <;> (exact absurd (hp _ h).2.1 (Int.lt_irrefl _))
  · rw [hg, sortI_len]
    have := row_len ps (List.replicate n.toNat []) a.toNat
    have z : ((List.replicate n.toNat ([] : List Int)).getD a.toNat []).length = 0 := by
      rw [List.getD_eq_getElem?_getD, List.getElem?_replicate]
      split <;> simp
    omega
/-- places of which no two stand beside each other -/
structure Indep (n : Int) (adj : List (List Int)) (xs : List Int) : Prop where
  nd : xs.Nodup
  rg : ∀ a ∈ xs, 0 ≤ a ∧ a < n
  ap : ∀ a ∈ xs, ∀ b ∈ xs, b ∉ adj.getD a.toNat []
theorem eq_apart {n : Int} {adj : List (List Int)} (A : Adj n adj) (start : Int) : ∃ xs : List Int, m_law_apart_from [.lst (adj.map lstI), .int start] = .ok (tupI xs) ∧ Indep n adj xs := by
  have hpos := A.pos
  have htop := A.top
  have hlen := A.len
  unfold m_law_apart_from runFn b_law_apart_from startE
  have hr : itR1 [.int (adj.length : Int)] = some ((List.range adj.length).map fun n : Nat => D.int (n : Int)) := by
    rw [q_rng (by omega), Int.toNat_natCast]
  simp [mVar, mVarB, hr]
  obtain ⟨e, q, xs, x3, x4, he, hI, hj, hc⟩ := loop_cnt (n := adj.length) (f := fun n : Nat => D.int (n : Int)) (ft := tgN 3) (fb := (sSeq (sSet 4 (mOp gMod (mOp gAdd (mVarB 1) (mVarB 3)) (mAp gLen (mCons (mVarB 0) mNil)))) (sIf (mNot (mTest (mAp gAny (mCons (mOfN (mLc [5] (mIt itS (mOp gIx (mVarB 0) (mVarB 4))) (tgN 5) mTrue (mOp gIn (mVarB 5) (mVarB 2)))) mNil)))) (sMt1 isLst oApp 2 (mVar 4)) sNx)))
    (env := [some (Sl.fr (.lst (adj.map lstI))), some (Sl.fr (D.int start)), some (Sl.ow none (.lst [])), none, none, none])
    (fun k env => ∃ (xs : List Int) (x3 x4 : Option Sl), env = [some (Sl.fr (.lst (adj.map lstI))), some (Sl.fr (D.int start)), some (Sl.ow none (.lst (xs.map .int))), x3, x4, none] ∧ Indep n adj xs ∧ (∀ a ∈ xs, ∃ j : Nat, j < k ∧ a = (start + j) % n) ∧ xs.length ≤ k)
    (fun k env hk ⟨xs, x3, x4, he, hI, hj, hc⟩ => by
      subst he
      have hmod : gMod (.int (start + (k : Int))) (.int (adj.length : Int)) = some (.int ((start + k) % n)) := by
        rw [q_mod (by omega), show ((adj.length : Nat) : Int) = n by omega]
      have p0 : 0 ≤ (start + (k : Int)) % n := Int.emod_nonneg _ (by omega)
      have p1 : (start + (k : Int)) % n < n := Int.emod_lt_of_pos _ (by omega)
      have hat := A.at p0 p1
      have hrow := A.row ((start + (k : Int)) % n)
      generalize hP : (start + (k : Int)) % n = pl at hmod p0 p1 hat hrow
      have hlc : mLc [5] (mIt itS (mOp gIx (mVarB 0) (mVarB 4))) (tgN 5) mTrue (mOp gIn (mVarB 5) (mVarB 2)) [some (Sl.fr (.lst (adj.map lstI))), some (Sl.fr (D.int start)), some (Sl.ow none (.lst (xs.map .int))), some (Sl.fr (.int k)), some (Sl.fr (.int pl)), none]
          = .ok (.lst (((adj.getD pl.toNat []).map fun a => decide (a ∈ xs)).map D.bl)) := by
        rw [mLc_filter (fun _ : Int => true) D.int (fun a : Int => D.bl (decide (a ∈ xs))) (adj.getD pl.toNat []) (by simp [mVarB, hat, lstI]) hrow rfl (fun a => ⟨_, rfl, rfl, fun _ => by simp [mVarB, wipeE]⟩)]
        rw [List.filter_eq_self.mpr (fun _ _ => rfl), List.map_map]
        rfl
      have hany : gAny [.lst (((adj.getD pl.toNat []).map fun a => decide (a ∈ xs)).map D.bl)] = some (.bl (((adj.getD pl.toNat []).map fun a => decide (a ∈ xs)).any id)) := by
        show (blsOf _).map _ = _
        rw [blsOf_map]; rfl
      have hq := r_app (i := 2) (q := none) (ds := xs.map .int) (fa := mVar 4) (env := [some (Sl.fr (.lst (adj.map lstI))), some (Sl.fr (D.int start)), some (Sl.ow none (.lst (xs.map .int))), some (Sl.fr (.int k)), some (Sl.fr (.int pl)), none]) rfl (by rw [List.length_map]; omega)
      by_cases z : ((adj.getD pl.toNat []).map fun a => decide (a ∈ xs)).any id = true
      · refine ⟨_, [some (Sl.fr (.lst (adj.map lstI))), some (Sl.fr (D.int start)), some (Sl.ow none (.lst (xs.map .int))), some (Sl.fr (.int k)), some (Sl.fr (.int pl)), none], rfl, ?_, xs, _, _, rfl, hI, fun a ha => ?_, by omega⟩
        · simp [mVar, mVarB, tgN, hmod]
          rw [hlc]
          simp only [R.map_ok, R.bind_ok, q_ownd, hany, z, R.ofO_some, q_dB, Bool.not_true, if_false, outR_ok, Bool.false_eq_true]
        · obtain ⟨j, h1, h2⟩ := hj a ha
          exact ⟨j, by omega, h2⟩
      · have zf : ((adj.getD pl.toNat []).map fun a => decide (a ∈ xs)).any id = false := Bool.eq_false_iff.mpr z
        refine ⟨_, [some (Sl.fr (.lst (adj.map lstI))), some (Sl.fr (D.int start)), some (Sl.ow none (.lst ((xs ++ [pl]).map .int))), some (Sl.fr (.int k)), some (Sl.fr (.int pl)), none], rfl, ?_, xs ++ [pl], _, _, rfl, ?_, fun a ha => ?_, by simp; omega⟩
        · simp [mVar, mVarB, tgN, hmod]
          rw [hlc]
          simp only [R.map_ok, R.bind_ok, q_ownd, hany, zf, R.ofO_some, q_dB, Bool.not_false, if_true, outR_ok, hq]
          simp [mVar]
        · have hno : ∀ b ∈ xs, b ∉ adj.getD pl.toNat [] := fun b hb hz => by
            apply z
            rw [List.any_eq_true]
            exact ⟨true, List.mem_map.mpr ⟨b, hz, by simp [hb]⟩, rfl⟩
          have hpx : pl ∉ xs := fun hz => by
            obtain ⟨j, h1, h2⟩ := hj pl hz
            rw [← hP] at h2
            have := Int.emod_emod_of_dvd (start + (k : Int)) (Int.dvd_refl n)
            have h3 := (Int.emod_eq_emod_iff_emod_sub_eq_zero).mp h2
            rw [show start + (k : Int) - (start + (j : Int)) = ((k - j : Nat) : Int) by omega, Int.emod_eq_of_lt (by omega) (by omega)] at h3
            omega
          refine ⟨?_, fun a ha => ?_, fun a ha b hb => ?_⟩
          · rw [List.nodup_append]
            refine ⟨hI.nd, by simp, fun a ha b hb => ?_⟩
            rw [List.mem_singleton.mp hb]
            intro z; subst z
            exact hpx ha
          · rcases List.mem_append.mp ha with ha | ha
            · exact hI.rg a ha
            · rw [List.mem_singleton.mp ha]; exact ⟨p0, p1⟩
          · rcases List.mem_append.mp ha with ha | ha <;> rcases List.mem_append.mp hb with hb | hb
            · exact hI.ap a ha b hb
            · rw [List.mem_singleton.mp hb]
              intro z
              have := hI.rg a ha
              exact hno a ha (A.sym a pl this.1 this.2 p0 p1 z)
            · rw [List.mem_singleton.mp ha]; exact hno b hb
            · rw [List.mem_singleton.mp ha, List.mem_singleton.mp hb]; exact A.irr pl p0 p1
        · rcases List.mem_append.mp ha with ha | ha
          · obtain ⟨j, h1, h2⟩ := hj a ha
            exact ⟨j, by omega, h2⟩
          · exact ⟨k, by omega, by rw [List.mem_singleton.mp ha, hP]⟩)
    ⟨[], none, none, rfl, ⟨List.nodup_nil, (fun a h => nomatch h), (fun a h => nomatch h)⟩, (fun a h => nomatch h), Nat.le_refl _⟩
  subst he
  refine ⟨sortI xs, ?_, sortI_nodup.mpr hI.nd, fun a ha => hI.rg a (mem_sortI.mp ha), fun a ha b hb => hI.ap a (mem_sortI.mp ha) b (mem_sortI.mp hb)⟩
  have q2 : loopFor (tgN 3) ((sSeq (sSet 4 (mOp gMod (mOp gAdd (mVarB 1) (mVarB 3)) (mAp gLen (mCons (mVarB 0) mNil)))) (sIf (mNot (mTest (mAp gAny (mCons (mOfN (mLc [5] (mIt itS (mOp gIx (mVarB 0) (mVarB 4))) (tgN 5) mTrue (mOp gIn (mVarB 5) (mVarB 2)))) mNil)))) (sMt1 isLst oApp 2 (mVar 4)) sNx))) ((List.range adj.length).map fun n : Nat => D.int (n : Int)) [some (Sl.fr (.lst (adj.map lstI))), some (Sl.fr (D.int start)), some (Sl.ow none (.lst [])), none, none, none] = _ := q
  rw [q2]
  simp [mVar, mVarB, sort_int, tupI]
end K45

set_option Elab.async false
set_option linter.all false
set_option maxRecDepth 100000
set_option maxHeartbeats 4000000
namespace K45
open PySem PySem.Spec PyProof.Rows L2 S
theorem filter_len {xs : List Int} {g : Int} (nd : xs.Nodup) (h : g ∈ xs) : (xs.filter fun p => !decide (p = g)).length + 1 = xs.length := by
  have e : (xs.filter fun p => !decide (p = g)) = xs.erase g := by
    rw [nd.erase_eq_filter]
    apply List.filter_congr
    intro a _
    by_cases z : a = g <;> simp [z]
  rw [e, List.length_erase_of_mem h]
  have := List.length_pos_of_mem h
  omega
theorem runFn_rt {L : Nat} {b : DEnv → Out} {ds : List D} {d : D} (h : ∃ e, b (startE L ds) = .rt d e) : runFn L b ds = .ok d := by
  obtain ⟨e, h⟩ := h
  unfold runFn
  rw [h]
theorem sFor_eq {fi : DEnv → R (List D)} {ft : D → DEnv → Option DEnv} {fb : DEnv → Out} {env : DEnv} {ds : List D} (h : fi env = .ok ds) : sFor fi ft fb env = loopFor ft fb ds env := by
  unfold sFor
  rw [h]; rfl
theorem sSeq_rt {f g : DEnv → Out} {env e : DEnv} {d : D} (h : f env = .rt d e) : sSeq f g env = .rt d e := by
  unfold sSeq
  rw [h]; rfl
theorem mItA_eq {g : List D → Option (List D)} {fa : DEnv → R (List D)} {env : DEnv} {xs ds : List D} (h : fa env = .ok xs) (k : g xs = some ds) : mItA g fa env = .ok ds := by
  unfold mItA
  rw [h, R.bind_ok, k]; rfl
theorem eq_played {n : Int} {adj : List (List Int)} (A : Adj n adj) {xs : List Int} (I : Indep n adj xs) (hx : xs.length ≤ 1000) (w : D) (st : List Int) (hn : st.Nodup) (hr : ∀ a ∈ st, 0 ≤ a ∧ a < n) (hlt : st.length < xs.length) (pool : List Int) (hp : pool ≠ []) :
    m_law_played [w, .lst (adj.map lstI), tupI xs, tupI st, lstI pool] = .ok (.bl true) := by
  have hpl : 0 < pool.length := List.length_pos_iff.mpr hp
  have htop := A.top
  have hrg : itR1 [.int ((xs.length : Int) + 1)] = some ((List.range (xs.length + 1)).map fun n : Nat => D.int (n : Int)) := by
    rw [q_rng (by omega), show ((xs.length : Int) + 1).toNat = xs.length + 1 by omega]
  have hlx : gLen [tupI xs] = some (.int xs.length) := by unfold tupI; rw [q_lenT, List.length_map]
  have hlp : gLen [lstI pool] = some (.int pool.length) := by unfold lstI; rw [q_len, List.length_map]
  refine runFn_rt (L := 11) (b := b_law_played) ?_
  have hE : startE 11 [w, .lst (adj.map lstI), tupI xs, tupI st, lstI pool] = [some (Sl.fr w), some (Sl.fr (.lst (adj.map lstI))), some (Sl.fr (tupI xs)), some (Sl.fr (tupI st)), some (Sl.fr (lstI pool)), none, none, none, none, none, none] := rfl
  rw [hE]
  unfold b_law_played
  have key : ∀ (t : Nat) (st done : List Int), st.Nodup → (∀ a ∈ st, 0 ≤ a ∧ a < n) → st.length < xs.length → done.Nodup → (∀ a ∈ done, a ∈ xs ∧ a ∈ st) → ∃ p : Int, p ∈ xs ∧ p ∉ st ∧
      m_apart_call [w, tupI xs, tupI st] = .ok (.int p) ∧ (xs.filter (fun p => !decide (p ∈ st)))[0]? = some p := by
    intro t st done hn hr hlt hd1 hd2
    obtain ⟨r, h1, h2⟩ := eq_call w xs st
    rcases h2 with ⟨_, h2⟩ | ⟨p, rfl, h2⟩
    · exfalso
      have := len_le xs st I.nd fun a ha => by
        by_cases z : a ∈ st
        · exact z
        · have : a ∈ xs.filter (fun p => !decide (p ∈ st)) := List.mem_filter.mpr ⟨ha, by simp [z]⟩
          rw [h2] at this; exact nomatch this
      omega
    · have hm := List.mem_filter.mp (List.mem_of_getElem? h2)
      exact ⟨p, hm.1, by simpa using hm.2, h1, h2⟩
  rcases loop_cntR (n := xs.length + 1) (f := fun n : Nat => D.int (n : Int)) (ft := tgN 5) (fb := (sSeq (sSet 6 (mCallN 3 m_apart_call (mCons (mVar 0) (mCons (mVar 2) (mCons (mVar 3) mNil))))) (sSeq (sSetN 7 (mLc [8] (mIt itS (mVar 2)) (tgN 8) (mTest (mOp gNin (mVarB 8) (mVarB 3))) (mVar 8))) (sSeq (sIf (mOr (mNot (mTest (mCallN 1 m_law_whole (mCons (mVar 6) mNil)))) (mTest (mOp gNe (mVarB 6) (mOp gIx (mVarB 7) (mC (.int 0)))))) (sRet (mC (.bl false))) sNx) (sSeq (sSetN 9 (mLc [8] (mIt itS (mVar 3)) (tgN 8) (mTest (mOp gIn (mVarB 8) (mOp gIx (mVarB 1) (mVarB 6)))) (mVar 8))) (sSeq (sIf (mTest (mOp gEq (mVarB 9) (mOfN (mLst mNil)))) (sRet (mC (.bl true))) sNx) (sSeq (sSet 10 (mOp gIx (mVarB 9) (mOp gMod (mOp gIx (mVarB 4) (mOp gMod (mVarB 5) (mAp gLen (mCons (mVarB 4) mNil)))) (mAp gLen (mCons (mVarB 9) mNil))))) (sSeq (sIf (mTest (mOp gIn (mVarB 10) (mVarB 2))) (sRet (mC (.bl false))) sNx) (sSet 3 (mAp gTuple (mCons (mOfN (mAp gSorted (mCons (mOfN (mOp gCat (mOfN (mLc [8] (mIt itS (mVar 3)) (tgN 8) (mTest (mOp gNe (mVarB 8) (mVarB 10))) (mVar 8))) (mOfN (mLst (mCons (mVar 6) mNil))))) mNil))) mNil))))))))))) (T := fun r => r = .bl true)
    (env := [some (Sl.fr w), some (Sl.fr (.lst (adj.map lstI))), some (Sl.fr (tupI xs)), some (Sl.fr (tupI st)), some (Sl.fr (lstI pool)), none, none, none, none, none, none])
    (fun t env => ∃ (st done : List Int) (x5 x6 x7 x9 x10 : Option Sl), env = [some (Sl.fr w), some (Sl.fr (.lst (adj.map lstI))), some (Sl.fr (tupI xs)), some (Sl.fr (tupI st)), some (Sl.fr (lstI pool)), x5, x6, x7, none, x9, x10] ∧
      st.Nodup ∧ (∀ a ∈ st, 0 ≤ a ∧ a < n) ∧ st.length < xs.length ∧ done.Nodup ∧ (∀ a ∈ done, a ∈ xs ∧ a ∈ st) ∧ done.length = t)
    (fun t env ht ⟨st, done, x5, x6, x7, x9, x10, he, hn, hr, hlt, hd1, hd2, hd3⟩ => by
      subst he
      obtain ⟨p, px, pst, hcall, hhead⟩ := key t st done hn hr hlt hd1 hd2
      have prg := I.rg p px
      have hat := A.at prg.1 prg.2
      have hstl : st.length ≤ 1000 := by omega
      refine ⟨_, rfl, ?_⟩
      -- the lists of a turn
      have l1 : mLc [8] (mIt itS (mVar 2)) (tgN 8) (mTest (mOp gNin (mVarB 8) (mVarB 3))) (mVar 8) [some (Sl.fr w), some (Sl.fr (.lst (adj.map lstI))), some (Sl.fr (tupI xs)), some (Sl.fr (tupI st)), some (Sl.fr (lstI pool)), some (Sl.fr (.int t)), some (Sl.fr (.int p)), x7, none, x9, x10]
          = .ok (.lst ((xs.filter (fun p => !decide (p ∈ st))).map .int)) :=
        mLc_filter (fun p => !decide (p ∈ st)) D.int D.int xs (by simp [mVar, tupI]) (by omega) rfl (fun a => ⟨_, rfl, by simp [mVarB, wipeE, tupI], fun _ => by simp [mVar, wipeE]⟩)
      have g1 : gIx (.lst ((xs.filter (fun p => !decide (p ∈ st))).map .int)) (.int 0) = some (.int p) := q_ixL (Int.le_refl _) (by rw [show Int.toNat 0 = 0 from rfl, List.getElem?_map, hhead]; rfl)
      generalize hop : (xs.filter (fun p => !decide (p ∈ st))).map D.int = op at l1 g1
      generalize hrow : adj.getD p.toNat [] = row at hat
      have l2 : mLc [8] (mIt itS (mVar 3)) (tgN 8) (mTest (mOp gIn (mVarB 8) (mOp gIx (mVarB 1) (mVarB 6)))) (mVar 8) [some (Sl.fr w), some (Sl.fr (.lst (adj.map lstI))), some (Sl.fr (tupI xs)), some (Sl.fr (tupI st)), some (Sl.fr (lstI pool)), some (Sl.fr (.int t)), some (Sl.fr (.int p)), some (Sl.ow none (.lst op)), none, x9, x10]
          = .ok (.lst ((st.filter (fun a => decide (a ∈ row))).map .int)) :=
        mLc_filter (fun a => decide (a ∈ row)) D.int D.int st (by simp [mVar, tupI]) (by omega) rfl (fun a => ⟨_, rfl, by simp [mVarB, wipeE, hat, lstI], fun _ => by simp [mVar, wipeE]⟩)
      generalize hmv : st.filter (fun a => decide (a ∈ row)) = mv at l2
      by_cases z : mv = []
      · refine .inr ⟨[some (Sl.fr w), some (Sl.fr (.lst (adj.map lstI))), some (Sl.fr (tupI xs)), some (Sl.fr (tupI st)), some (Sl.fr (lstI pool)), some (Sl.fr (.int t)), some (Sl.fr (.int p)), some (Sl.ow none (.lst op)), none, some (Sl.ow none (.lst [])), x10], .bl true, ?_, rfl⟩
        subst z
        have hnil : gEq (.lst []) (.lst []) = some (.bl true) := rfl
        simp [mVar, mVarB, tgN, hcall, l1, eq_whole, g1, l2, hnil]
      · refine .inl ?_
        have hmvl : 0 < mv.length := List.length_pos_iff.mpr z
        have b1 : ((t : Int) % (pool.length : Int)).toNat < pool.length := by
          have := Int.emod_nonneg (t : Int) (show (pool.length : Int) ≠ 0 by omega)
          have := Int.emod_lt_of_pos (t : Int) (show (0 : Int) < pool.length by omega)
          omega
        obtain ⟨c, hc⟩ : ∃ c : Int, gIx (lstI pool) (.int ((t : Int) % (pool.length : Int))) = some (.int c) :=
          ⟨pool[((t : Int) % (pool.length : Int)).toNat], q_ixL (Int.emod_nonneg _ (by omega)) (by rw [List.getElem?_map, List.getElem?_eq_getElem b1]; rfl)⟩
        have b2 : (c % (mv.length : Int)).toNat < mv.length := by
          have := Int.emod_nonneg c (show (mv.length : Int) ≠ 0 by omega)
          have := Int.emod_lt_of_pos c (show (0 : Int) < mv.length by omega)
          omega
        obtain ⟨g, hg, hgm⟩ : ∃ g : Int, gIx (.lst (mv.map .int)) (.int (c % (mv.length : Int))) = some (.int g) ∧ g ∈ mv :=
          ⟨mv[(c % (mv.length : Int)).toNat], q_ixL (Int.emod_nonneg _ (by omega)) (by rw [List.getElem?_map, List.getElem?_eq_getElem b2]; rfl), List.getElem_mem b2⟩
        have m1 : gMod (.int (t : Int)) (.int (pool.length : Int)) = some (.int ((t : Int) % (pool.length : Int))) := q_mod (by omega)
        have m2 : gMod (.int c) (.int (mv.length : Int)) = some (.int (c % (mv.length : Int))) := q_mod (by omega)
        rw [← hmv] at hgm
        have hgm2 := List.mem_filter.mp hgm
        have gst : g ∈ st := hgm2.1
        have grow : g ∈ row := by simpa using hgm2.2
        have gx : g ∉ xs := fun zz => I.ap p px g zz (by rw [hrow]; exact grow)
        have gin : gIn (.int g) (tupI xs) = some (.bl false) := by unfold tupI; rw [q_inT]; simp [gx]
        have l3 : mLc [8] (mIt itS (mVar 3)) (tgN 8) (mTest (mOp gNe (mVarB 8) (mVarB 10))) (mVar 8) [some (Sl.fr w), some (Sl.fr (.lst (adj.map lstI))), some (Sl.fr (tupI xs)), some (Sl.fr (tupI st)), some (Sl.fr (lstI pool)), some (Sl.fr (.int t)), some (Sl.fr (.int p)), some (Sl.ow none (.lst op)), none, some (Sl.ow none (.lst (mv.map .int))), some (Sl.fr (.int g))]
            = .ok (.lst ((st.filter (fun a => !decide (a = g))).map .int)) :=
          mLc_filter (fun a => !decide (a = g)) D.int D.int st (by simp [mVar, tupI]) (by omega) rfl (fun a => ⟨_, rfl, by simp [mVarB, wipeE], fun _ => by simp [mVar, wipeE]⟩)
        have hfl := filter_len hn gst
        have hcat : gCat (.lst ((st.filter (fun a => !decide (a = g))).map .int)) (.lst [.int p]) = some (.lst ((st.filter (fun a => !decide (a = g)) ++ [p]).map .int)) := by
          show (if _ then _ else _) = _
          rw [if_pos (by simp only [List.length_map, List.length_cons, List.length_nil]; omega), List.map_append]
          rfl
        have hsort : gSorted [.lst ((st.filter (fun a => !decide (a = g))).map D.int ++ [D.int p])] = some (.lst ((sortI (st.filter (fun a => !decide (a = g)) ++ [p])).map D.int)) := by
          rw [← sort_int, List.map_append]; rfl
        refine ⟨[some (Sl.fr w), some (Sl.fr (.lst (adj.map lstI))), some (Sl.fr (tupI xs)), some (Sl.fr (tupI (sortI (st.filter (fun a => !decide (a = g)) ++ [p])))), some (Sl.fr (lstI pool)), some (Sl.fr (.int t)), some (Sl.fr (.int p)), some (Sl.ow none (.lst op)), none, some (Sl.ow none (.lst (mv.map .int))), some (Sl.fr (.int g))], ?_, sortI (st.filter (fun a => !decide (a = g)) ++ [p]), p :: done, _, _, _, _, _, rfl, ?_, ?_, ?_, ?_, ?_, ?_⟩
        · simp [mVar, mVarB, tgN, hcall, l1, eq_whole, g1, l2, z, hlp, m1, hc, m2, hg, gin, l3, hcat, hsort]
          rfl
        · rw [sortI_nodup, List.nodup_append]
          refine ⟨hn.filter _, by simp, fun a ha b hb => ?_⟩
          rw [List.mem_singleton.mp hb]
          intro zz; subst zz
          exact pst (List.mem_filter.mp ha).1
        · intro a ha
          rcases List.mem_append.mp (mem_sortI.mp ha) with ha | ha
          · exact hr a (List.mem_filter.mp ha).1
          · rw [List.mem_singleton.mp ha]; exact prg
        · rw [sortI_len, List.length_append, List.length_singleton]; omega
        · exact List.nodup_cons.mpr ⟨fun zz => pst (hd2 p zz).2, hd1⟩
        · intro a ha
          rw [mem_sortI]
          rcases List.mem_cons.mp ha with ha | ha
          · subst ha
            exact ⟨px, List.mem_append_right _ (List.mem_singleton.mpr rfl)⟩
          · have := hd2 a ha
            refine ⟨this.1, List.mem_append_left _ (List.mem_filter.mpr ⟨this.2, ?_⟩)⟩
            have : a ≠ g := fun zz => gx (by rw [← zz]; exact this.1)
            simp [this]
        · rw [List.length_cons, hd3])
    ⟨st, [], none, none, none, none, none, rfl, hn, hr, hlt, List.nodup_nil, (fun a h => nomatch h), rfl⟩ with ⟨e, q, st2, done, x5, x6, x7, x9, x10, he, hn2, hr2, hlt2, hd1, hd2, hd3⟩ | ⟨e, r, q, hq⟩
  · exfalso
    have := len_le done st2 hd1 fun a ha => (hd2 a ha).2
    omega
  · subst hq
    exact ⟨e, sSeq_rt ((sFor_eq (mItA_eq (xs := [.int ((xs.length : Int) + 1)]) (by simp [mVarB, hlx]) hrg)).trans q)⟩
end K45

set_option Elab.async false
set_option linter.all false
set_option maxRecDepth 100000
set_option maxHeartbeats 4000000
namespace K45
open PySem PySem.Spec PyProof.Rows L2 S
theorem rgI_nodup (n : Nat) : (rgI n).Nodup := by
  unfold rgI
  refine List.Pairwise.map _ (fun a b h => ?_) (List.nodup_range (n := n))
  intro z
  exact h (by omega)
theorem mem_rgI {n : Nat} {a : Int} (h0 : 0 ≤ a) (h1 : a < n) : a ∈ rgI n := List.mem_map.mpr ⟨a.toNat, List.mem_range.mpr (by omega), by omega⟩
theorem rgI_mem {n : Nat} {a : Int} (h : a ∈ rgI n) : 0 ≤ a ∧ a < n := by
  obtain ⟨i, h1, rfl⟩ := List.mem_map.mp h
  have := List.mem_range.mp h1
  omega
theorem go {f g : DEnv → Out} {env e1 : DEnv} {d : D} (h : f env = .nx e1) (k : ∃ e, g e1 = .rt d e) : ∃ e, sSeq f g env = .rt d e := by
  unfold sSeq
  rw [h]; exact k
theorem goX {f g : DEnv → Out} {env : DEnv} {d : D} (P : DEnv → Prop) (h : ∃ e1, f env = .nx e1 ∧ P e1) (k : ∀ e1, P e1 → ∃ e, g e1 = .rt d e) : ∃ e, sSeq f g env = .rt d e := by
  obtain ⟨e1, h1, h2⟩ := h
  exact go h1 (k e1 h2)
theorem goR {f g : DEnv → Out} {env : DEnv} {d : D} (h : ∃ e, f env = .rt d e) : ∃ e, sSeq f g env = .rt d e := by
  obtain ⟨e, h⟩ := h
  exact ⟨e, sSeq_rt h⟩
theorem goF {fi : DEnv → R (List D)} {ft : D → DEnv → Option DEnv} {fb g : DEnv → Out} {env : DEnv} {ds : List D} {d : D} (P : DEnv → Prop) (h : fi env = .ok ds) (l : ∃ e1, loopFor ft fb ds env = .nx e1 ∧ P e1) (k : ∀ e1, P e1 → ∃ e, g e1 = .rt d e) : ∃ e, sSeq (sFor fi ft fb) g env = .rt d e := by
  obtain ⟨e1, h1, h2⟩ := l
  exact go ((sFor_eq h).trans h1) (k e1 h2)
theorem cut_take (xs : List Int) (g : Nat) (h : g ≤ xs.length) : cutD (xs.map .int) none (some (g : Int)) = (xs.take g).map .int := by
  unfold S.cutD
  rw [HT.sIx_nat, HT.sIx_none, List.length_map, Nat.min_eq_left h, Nat.sub_zero, List.drop_zero, List.map_take]
theorem call_non {w : D} {zs xs : List Int} (h : ∀ a ∈ zs, a ∈ xs) : m_apart_call [w, tupI zs, tupI xs] = .ok .non := by
  obtain ⟨r, h1, h2⟩ := eq_call w zs xs
  rcases h2 with ⟨rfl, _⟩ | ⟨p, rfl, h2⟩
  · exact h1
  · have hm := List.mem_filter.mp (List.mem_of_getElem? h2)
    have := h p hm.1
    simp [this] at hm
theorem sl_eq (v0 v1 v3 v4 v5 v6 v7 v8 : D) (many k : Int) (g : D) (h : 1 ≤ many ∧ many ≤ 60) : sSortLam 11 9 (mVarB 2) [some (Sl.fr v0), some (Sl.fr v1), some (Sl.fr (.int many)), some (Sl.fr v3), some (Sl.fr v4), some (Sl.fr v5), some (Sl.fr v6), some (Sl.fr v7), some (Sl.fr v8), some (Sl.fr (.int k)), some (Sl.fr g), none]
    = .nx [some (Sl.fr v0), some (Sl.fr v1), some (Sl.fr (.int many)), some (Sl.fr v3), some (Sl.fr v4), some (Sl.fr v5), some (Sl.fr v6), some (Sl.fr v7), some (Sl.fr v8), some (Sl.fr (.int k)), some (Sl.fr g), some (Sl.ow none (.lst ((sortBy (mixI k) (rgI many.toNat)).map .int)))] := by
  unfold sSortLam
  rw [if_pos (show noOw _ = true from rfl)]
  show (if 0 ≤ many ∧ many ≤ 1000000 then _ else _) = _
  rw [if_pos (by omega)]
  rfl
theorem slc_eq (v0 v1 v2 v3 v4 v5 v6 v7 v8 v9 : D) (g : Nat) (places : List Int) (h : g ≤ places.length) : mSlL (mVarB 11) mPartN (mPart (mVarB 10)) [some (Sl.fr v0), some (Sl.fr v1), some (Sl.fr v2), some (Sl.fr v3), some (Sl.fr v4), some (Sl.fr v5), some (Sl.fr v6), some (Sl.fr v7), some (Sl.fr v8), some (Sl.fr v9), some (Sl.fr (.int (g : Int))), some (Sl.ow none (.lst (places.map .int)))]
    = .ok (.lst ((places.take g).map .int)) := by
  rw [← cut_take places g h]
  rfl
theorem stp {f g : DEnv → Out} {env e1 e : DEnv} (h : f env = .nx e1) (k : g e1 = .nx e) : sSeq f g env = .nx e := by
  unfold sSeq
  rw [h]; exact k
theorem tail_eq {f8 : List D → R D} {f10 : DEnv → R Own} {f11 : List D → Option Own} {env : DEnv} {w a x p : D} {ds es : List D} (h10 : f10 env = .ok (.lst ds)) (h11 : f11 [.lst ds] = some (.lst es)) (h8 : f8 [w, a, x, .tup es, p] = .ok (.bl true)) (hw : mVar 6 env = .ok w) (ha : mVar 7 env = .ok a) (hx : mVar 8 env = .ok x) (hp : mVar 4 env = .ok p) :
    sIf (mNot (mTest (mCallN 5 f8 (mCons (mVar 6) (mCons (mVar 7) (mCons (mVar 8) (mCons (mAp gTuple (mCons (mOfN (mAp f11 (mCons (mOfN f10) mNil))) mNil)) (mCons (mVar 4) mNil)))))))) (sRet (mC (.bl false))) sNx env = .nx env := by
  simp [h10, h11, h8, hw, ha, hx, hp]
theorem law_true (ns : List Int) (hns : ns.length ≤ 63) : ∃ e, b_law (startE 12 [lstI ns]) = .rt (.bl true) e := by
  have hE : startE 12 [lstI ns] = [some (Sl.fr (lstI ns)), none, none, none, none, none, none, none, none, none, none, none] := rfl
  rw [hE]
  unfold b_law
  have Hcell := eq_cell
  have Hpool := eq_pool
  have Hties := eq_ties
  have Hturned := eq_turned
  have Hweb := eq_web
  have Hnears := eq_nears
  have Hapart := @eq_apart
  have Hcall := @call_non
  have Hplay := @eq_played
  have Hsl := sl_eq
  generalize m_law_cell_at = f0 at Hcell ⊢
  generalize m_law_pool = f1 at Hpool ⊢
  generalize m_law_ties = f2 at Hties ⊢
  generalize m_law_turned = f3 at Hturned ⊢
  generalize m_Web = f4 at Hweb ⊢
  generalize m_nears = f5 at Hnears ⊢
  generalize m_law_apart_from = f6 at Hapart ⊢
  generalize m_apart_call = f7 at Hcall ⊢
  generalize m_law_played = f8 at Hplay ⊢
  generalize sSortLam 11 9 (mVarB 2) = f9 at Hsl ⊢
  have Hcut := slc_eq
  have Hsort := sort_int
  generalize mSlL (mVarB 11) mPartN (mPart (mVarB 10)) = f10 at Hcut ⊢
  generalize gSorted = f11 at Hsort ⊢
  have m14 : ∀ z, gMod (.int z) (.int 14) = some (.int (z % 14)) := fun z => q_mod (by omega)
  have m6 : ∀ z, gMod (.int z) (.int 6) = some (.int (z % 6)) := fun z => q_mod (by omega)
  have m8 : ∀ z, gMod (.int z) (.int 8) = some (.int (z % 8)) := fun z => q_mod (by omega)
  have m26 : ∀ z, gMod (.int z) (.int 26) = some (.int (z % 26)) := fun z => q_mod (by omega)
  have m2 : ∀ z, gMod (.int z) (.int 2) = some (.int (z % 2)) := fun z => q_mod (by omega)
  have d5 : ∀ z, gDiv (.int z) (.int 5) = some (.int (z / 5)) := fun z => q_div (by omega)
  have d7 : ∀ z, gDiv (.int z) (.int 7) = some (.int (z / 7)) := fun z => q_div (by omega)
  have d14 : ∀ z, gDiv (.int z) (.int 14) = some (.int (z / 14)) := fun z => q_div (by omega)
  have d112 : ∀ z, gDiv (.int z) (.int 112) = some (.int (z / 112)) := fun z => q_div (by omega)
  have hc := Hcell ns 0
  generalize ns.getD 0 0 = c at hc
  refine go (e1 := [some (Sl.fr (lstI ns)), some (Sl.fr (.int c)), none, none, none, none, none, none, none, none, none, none]) (by simp [mVar]; rw [show f0 [lstI ns, .int 0] = _ from hc]; rfl) ?_
  refine go (e1 := [some (Sl.fr (lstI ns)), some (Sl.fr (.int c)), some (Sl.fr (.int (1 + c % 14))), none, none, none, none, none, none, none, none, none]) (by simp [mVarB, m14]) ?_
  refine go (e1 := [some (Sl.fr (lstI ns)), some (Sl.fr (.int c)), some (Sl.fr (.int (1 + c % 14))), some (Sl.fr (.int (1 + c / 5 % 6))), none, none, none, none, none, none, none, none]) (by simp [mVarB, d5, m6]) ?_
  refine goX (fun e1 => ∃ many thick : Int, 1 ≤ many ∧ many ≤ 60 ∧ e1 = [some (Sl.fr (lstI ns)), some (Sl.fr (.int c)), some (Sl.fr (.int many)), some (Sl.fr (.int thick)), none, none, none, none, none, none, none, none]) ?_ ?_
  · by_cases z : c / 14 % 8 = 3
    · exact ⟨_, by simp [mVarB, d14, m8, z, d112, m26, d5, m2], 15 + c / 112 % 26, 1 + c / 5 % 2, by omega, by omega, rfl⟩
    · exact ⟨_, by simp [mVarB, d14, m8, z], 1 + c % 14, 1 + c / 5 % 6, by omega, by omega, rfl⟩
  rintro e1 ⟨many, thick, g1, g2, rfl⟩
  obtain ⟨ps, hps, hpool⟩ := Hpool ns
  refine go (e1 := [some (Sl.fr (lstI ns)), some (Sl.fr (.int c)), some (Sl.fr (.int many)), some (Sl.fr (.int thick)), some (Sl.fr (lstI ps)), none, none, none, none, none, none, none]) (by simp [mVar, hpool]) ?_
  obtain ⟨ts, hts, hgp⟩ := Hties ps hps many thick g1 g2
  refine go (e1 := [some (Sl.fr (lstI ns)), some (Sl.fr (.int c)), some (Sl.fr (.int many)), some (Sl.fr (.int thick)), some (Sl.fr (lstI ps)), some (Sl.fr (.lst (ts.map pr))), none, none, none, none, none, none]) (by simp [mVar, hts]) ?_
  have htl : ts.length ≤ 10000 := by have := hgp.2.2; omega
  have htp : ∀ p ∈ ts, 0 ≤ p.1 ∧ p.1 < p.2 ∧ p.2 < many := fun p hp => by have := hgp.2.1 p hp; omega
  obtain ⟨told, htold, hnrm⟩ := Hturned ts htl (fun p hp => (htp p hp).2.1) c
  obtain ⟨w, hw⟩ := Hweb many g1 g2 told ts htp hgp.1 htl hnrm
  refine go (e1 := [some (Sl.fr (lstI ns)), some (Sl.fr (.int c)), some (Sl.fr (.int many)), some (Sl.fr (.int thick)), some (Sl.fr (lstI ps)), some (Sl.fr (.lst (ts.map pr))), some (Sl.fr w), none, none, none, none, none]) (by simp [mVar, htold, hw]) ?_
  have hnear := Hnears many g1 g2 ts htp htl
  have A := adj_of many g1 g2 ts htp htl
  generalize adjOf many.toNat ts = adj at hnear A
  refine go (e1 := [some (Sl.fr (lstI ns)), some (Sl.fr (.int c)), some (Sl.fr (.int many)), some (Sl.fr (.int thick)), some (Sl.fr (lstI ps)), some (Sl.fr (.lst (ts.map pr))), some (Sl.fr w), some (Sl.fr (.lst (adj.map lstI))), none, none, none, none]) (by simp [mVar, hnear]) ?_
  obtain ⟨xs, hxs, I⟩ := Hapart A (c / 7 % many)
  have mm : gMod (.int (c / 7)) (.int many) = some (.int (c / 7 % many)) := q_mod (by omega)
  refine go (e1 := [some (Sl.fr (lstI ns)), some (Sl.fr (.int c)), some (Sl.fr (.int many)), some (Sl.fr (.int thick)), some (Sl.fr (lstI ps)), some (Sl.fr (.lst (ts.map pr))), some (Sl.fr w), some (Sl.fr (.lst (adj.map lstI))), some (Sl.fr (tupI xs)), none, none, none]) (by simp [mVar, mVarB, d7, mm, hxs]) ?_
  have c1 : f7 [w, tupI xs, tupI xs] = .ok .non := Hcall fun a h => h
  have c2 : f7 [w, .tup [], tupI xs] = .ok .non := Hcall (zs := []) fun a h => nomatch h
  have c3 : gNotN .non .non = some (.bl false) := rfl
  refine go (e1 := [some (Sl.fr (lstI ns)), some (Sl.fr (.int c)), some (Sl.fr (.int many)), some (Sl.fr (.int thick)), some (Sl.fr (lstI ps)), some (Sl.fr (.lst (ts.map pr))), some (Sl.fr w), some (Sl.fr (.lst (adj.map lstI))), some (Sl.fr (tupI xs)), none, none, none]) (by simp [mVar, mVarB, c1, c2, c3]) ?_
  have hlx : gLen [tupI xs] = some (.int xs.length) := by unfold tupI; rw [q_lenT, List.length_map]
  by_cases hz : xs.length < 2
  · have hz' : (xs.length : Int) < 2 := by omega
    exact goR ⟨_, by simp [mVarB, hlx, hz']; rfl⟩
  refine go (e1 := [some (Sl.fr (lstI ns)), some (Sl.fr (.int c)), some (Sl.fr (.int many)), some (Sl.fr (.int thick)), some (Sl.fr (lstI ps)), some (Sl.fr (.lst (ts.map pr))), some (Sl.fr w), some (Sl.fr (.lst (adj.map lstI))), some (Sl.fr (tupI xs)), none, none, none]) (by simp [mVarB, hlx]; omega) ?_
  have hxn : xs.length ≤ many.toNat := by
    have := len_le xs (rgI many.toNat) I.nd fun a h => mem_rgI (I.rg a h).1 (by have := (I.rg a h).2; omega)
    simpa [rgI] using this
  refine goF (fun _ => True) (ds := ps.map .int) (by simp [mVar, lstI]) ?_ (fun e1 _ => ⟨e1, rfl⟩)
  obtain ⟨e, q, _⟩ := loop_nx (ft := tgN 9) (fb := (sSeq (sSet 10 (mOp gAdd (mC (.int 1)) (mOp gMod (mVarB 9) (mOp gSub (mAp gLen (mCons (mVarB 8) mNil)) (mC (.int 1)))))) (sSeq (sPre (gFgt 11) f9) (sIf (mNot (mTest (mCallN 5 f8 (mCons (mVar 6) (mCons (mVar 7) (mCons (mVar 8) (mCons (mAp gTuple (mCons (mOfN (mAp f11 (mCons (mOfN f10) mNil))) mNil)) (mCons (mVar 4) mNil)))))))) (sRet (mC (.bl false))) sNx))))
    (I := fun ds env => ∃ (cs : List Int) (x9 x10 x11 : Option Sl), ds = cs.map .int ∧ env = [some (Sl.fr (lstI ns)), some (Sl.fr (.int c)), some (Sl.fr (.int many)), some (Sl.fr (.int thick)), some (Sl.fr (lstI ps)), some (Sl.fr (.lst (ts.map pr))), some (Sl.fr w), some (Sl.fr (.lst (adj.map lstI))), some (Sl.fr (tupI xs)), x9, x10, x11])
    (fun d ds env ⟨cs, x9, x10, x11, h1, h2⟩ => by
      subst h2
      cases cs with
      | nil => cases h1
      | cons k cs =>
        injection h1 with h5 h6
        subst h5 h6
        obtain ⟨g, hg1, hg2, hg3⟩ : ∃ g : Nat, 1 + k % ((xs.length : Int) - 1) = (g : Int) ∧ 1 ≤ g ∧ g < xs.length := by
          have := Int.emod_nonneg k (show (xs.length : Int) - 1 ≠ 0 by omega)
          have := Int.emod_lt_of_pos k (show (0 : Int) < (xs.length : Int) - 1 by omega)
          exact ⟨(1 + k % ((xs.length : Int) - 1)).toNat, by omega, by omega, by omega⟩
        have mk : gMod (.int k) (.int ((xs.length : Int) - 1)) = some (.int (k % ((xs.length : Int) - 1))) := q_mod (by omega)
        have hperm : (sortBy (mixI k) (rgI many.toNat)).Perm (rgI many.toNat) := List.mergeSort_perm _ _
        have hsl := Hsl (lstI ns) (.int c) (.int thick) (lstI ps) (.lst (ts.map pr)) w (.lst (adj.map lstI)) (tupI xs) many k (.int (g : Int)) ⟨g1, g2⟩
        generalize sortBy (mixI k) (rgI many.toNat) = places at hperm hsl
        have hpln : places.length = many.toNat := by rw [hperm.length_eq]; simp [rgI]
        have hct := Hcut (lstI ns) (.int c) (.int many) (.int thick) (lstI ps) (.lst (ts.map pr)) w (.lst (adj.map lstI)) (tupI xs) (.int k) g places (by omega)
        have hpl := Hplay A I (by omega) w (sortI (places.take g)) (sortI_nodup.mpr ((List.take_sublist g places).nodup (hperm.nodup_iff.mpr (rgI_nodup _))))
          (fun a ha => by have := rgI_mem (hperm.mem_iff.mp (List.mem_of_mem_take (mem_sortI.mp ha))); omega) (by rw [sortI_len, List.length_take]; omega) ps hps
        have hso := Hsort (places.take g)
        have hpl' : f8 [w, .lst (adj.map lstI), tupI xs, .tup ((sortI (places.take g)).map D.int), lstI ps] = .ok (.bl true) := hpl
        refine ⟨_, [some (Sl.fr (lstI ns)), some (Sl.fr (.int c)), some (Sl.fr (.int many)), some (Sl.fr (.int thick)), some (Sl.fr (lstI ps)), some (Sl.fr (.lst (ts.map pr))), some (Sl.fr w), some (Sl.fr (.lst (adj.map lstI))), some (Sl.fr (tupI xs)), some (Sl.fr (.int k)), some (Sl.fr (.int (g : Int))), some (Sl.ow none (.lst (places.map .int)))], rfl, ?_, cs, _, _, _, rfl, rfl⟩
        exact stp (e1 := [some (Sl.fr (lstI ns)), some (Sl.fr (.int c)), some (Sl.fr (.int many)), some (Sl.fr (.int thick)), some (Sl.fr (lstI ps)), some (Sl.fr (.lst (ts.map pr))), some (Sl.fr w), some (Sl.fr (.lst (adj.map lstI))), some (Sl.fr (tupI xs)), some (Sl.fr (.int k)), some (Sl.fr (.int (g : Int))), x11]) (by simp [mVarB, hlx, mk, hg1]) (stp hsl (tail_eq hct hso hpl' rfl rfl rfl rfl)))
    (ps.map .int) [some (Sl.fr (lstI ns)), some (Sl.fr (.int c)), some (Sl.fr (.int many)), some (Sl.fr (.int thick)), some (Sl.fr (lstI ps)), some (Sl.fr (.lst (ts.map pr))), some (Sl.fr w), some (Sl.fr (.lst (adj.map lstI))), some (Sl.fr (tupI xs)), none, none, none] ⟨ps, none, none, none, rfl, rfl⟩
  exact ⟨e, q, trivial⟩
end K45

namespace K45
open PySem PySem.Spec PyProof.Rows L2 S
theorem all_mk {l : PySem.W.OpenLaw} {w : World} {K : PySem.W.Frag} {h : Heap} {mg : Str → Option Value} {fa : Addr} (X : K.In h) (G : h.Ns mainGlobals mg) (hfa : mg "law" = some (.ref fa)) (own : LamX.OwnTab K fa h)
    {f_apart_call : Addr} {oc_apart_call kV_apart_call dc_apart_call pm_apart_call cd_apart_call ct_apart_call : Value} {od_apart_call an_apart_call : Option Addr} {sl_apart_call : Array (Option Value)}
    {f_law_cell_at : Addr} {oc_law_cell_at kV_law_cell_at dc_law_cell_at pm_law_cell_at cd_law_cell_at ct_law_cell_at : Value} {od_law_cell_at an_law_cell_at : Option Addr} {sl_law_cell_at : Array (Option Value)}
    {f_law_mixed : Addr} {oc_law_mixed kV_law_mixed dc_law_mixed pm_law_mixed cd_law_mixed ct_law_mixed : Value} {od_law_mixed an_law_mixed : Option Addr} {sl_law_mixed : Array (Option Value)}
    {f_law_whole : Addr} {oc_law_whole kV_law_whole dc_law_whole pm_law_whole cd_law_whole ct_law_whole : Value} {od_law_whole an_law_whole : Option Addr} {sl_law_whole : Array (Option Value)}
    {f_law_pool : Addr} {oc_law_pool kV_law_pool dc_law_pool pm_law_pool cd_law_pool ct_law_pool : Value} {od_law_pool an_law_pool : Option Addr} {sl_law_pool : Array (Option Value)}
    {f_law_ties : Addr} {oc_law_ties kV_law_ties dc_law_ties pm_law_ties cd_law_ties ct_law_ties : Value} {od_law_ties an_law_ties : Option Addr} {sl_law_ties : Array (Option Value)}
    {f_law_turned : Addr} {oc_law_turned kV_law_turned dc_law_turned pm_law_turned cd_law_turned ct_law_turned : Value} {od_law_turned an_law_turned : Option Addr} {sl_law_turned : Array (Option Value)}
    {f_law_nears : Addr} {oc_law_nears kV_law_nears dc_law_nears pm_law_nears cd_law_nears ct_law_nears : Value} {od_law_nears an_law_nears : Option Addr} {sl_law_nears : Array (Option Value)}
    {f_law_some : Addr} {oc_law_some kV_law_some dc_law_some pm_law_some cd_law_some ct_law_some : Value} {od_law_some an_law_some : Option Addr} {sl_law_some : Array (Option Value)}
    {f_law_apart_from : Addr} {oc_law_apart_from kV_law_apart_from dc_law_apart_from pm_law_apart_from cd_law_apart_from ct_law_apart_from : Value} {od_law_apart_from an_law_apart_from : Option Addr} {sl_law_apart_from : Array (Option Value)}
    {f_law_played : Addr} {oc_law_played kV_law_played dc_law_played pm_law_played cd_law_played ct_law_played : Value} {od_law_played an_law_played : Option Addr} {sl_law_played : Array (Option Value)}
    {f_law : Addr} {oc_law kV_law dc_law pm_law cd_law ct_law : Value} {od_law an_law : Option Addr} {sl_law : Array (Option Value)}
    {C : Addr}
    {fI : Addr} {ocI kVI dcI pmI cdI ctI : Value} {odI anI : Option Addr} {slI : Array (Option Value)}
    {c_BadPlaces : Addr}
    {c_BadTie : Addr}
    {t_MOST_PLACES : Tok}
    {cL PL : Addr} {ddL : Option Addr} {vsL : Array Value} {slL : Array (Option Value)} {file : Str} {tf tg tt : Tok} {flags text : Int} {inF : Bool}
    (a_apart_call : PySem.W.nsIn K mainGlobals "apart_call" = some (some (.ref f_apart_call)))
    (l_apart_call : K.lookup f_apart_call = some ⟨oc_apart_call, od_apart_call, .func (PySem.W.fnOf "apart_call" "apart_call" (defArgs s_apart_call) (defBody s_apart_call) (defScope s_apart_call) .none kV_apart_call dc_apart_call pm_apart_call an_apart_call cd_apart_call ct_apart_call), sl_apart_call⟩)
    (c_apart_call : PySem.W.codeIn K cd_apart_call "apart_call" = true)
    (k_apart_call : PySem.W.keepIn K (.ref f_apart_call) = true)
    (a_law_cell_at : PySem.W.nsIn K mainGlobals "_law_cell_at" = some (some (.ref f_law_cell_at)))
    (l_law_cell_at : K.lookup f_law_cell_at = some ⟨oc_law_cell_at, od_law_cell_at, .func (PySem.W.fnOf "_law_cell_at" "_law_cell_at" (defArgs s_law_cell_at) (defBody s_law_cell_at) (defScope s_law_cell_at) .none kV_law_cell_at dc_law_cell_at pm_law_cell_at an_law_cell_at cd_law_cell_at ct_law_cell_at), sl_law_cell_at⟩)
    (c_law_cell_at : PySem.W.codeIn K cd_law_cell_at "_law_cell_at" = true)
    (k_law_cell_at : PySem.W.keepIn K (.ref f_law_cell_at) = true)
    (a_law_mixed : PySem.W.nsIn K mainGlobals "_law_mixed" = some (some (.ref f_law_mixed)))
    (l_law_mixed : K.lookup f_law_mixed = some ⟨oc_law_mixed, od_law_mixed, .func (PySem.W.fnOf "_law_mixed" "_law_mixed" (defArgs s_law_mixed) (defBody s_law_mixed) (defScope s_law_mixed) .none kV_law_mixed dc_law_mixed pm_law_mixed an_law_mixed cd_law_mixed ct_law_mixed), sl_law_mixed⟩)
    (c_law_mixed : PySem.W.codeIn K cd_law_mixed "_law_mixed" = true)
    (k_law_mixed : PySem.W.keepIn K (.ref f_law_mixed) = true)
    (a_law_whole : PySem.W.nsIn K mainGlobals "_law_whole" = some (some (.ref f_law_whole)))
    (l_law_whole : K.lookup f_law_whole = some ⟨oc_law_whole, od_law_whole, .func (PySem.W.fnOf "_law_whole" "_law_whole" (defArgs s_law_whole) (defBody s_law_whole) (defScope s_law_whole) .none kV_law_whole dc_law_whole pm_law_whole an_law_whole cd_law_whole ct_law_whole), sl_law_whole⟩)
    (c_law_whole : PySem.W.codeIn K cd_law_whole "_law_whole" = true)
    (k_law_whole : PySem.W.keepIn K (.ref f_law_whole) = true)
    (a_law_pool : PySem.W.nsIn K mainGlobals "_law_pool" = some (some (.ref f_law_pool)))
    (l_law_pool : K.lookup f_law_pool = some ⟨oc_law_pool, od_law_pool, .func (PySem.W.fnOf "_law_pool" "_law_pool" (defArgs s_law_pool) (defBody s_law_pool) (defScope s_law_pool) .none kV_law_pool dc_law_pool pm_law_pool an_law_pool cd_law_pool ct_law_pool), sl_law_pool⟩)
    (c_law_pool : PySem.W.codeIn K cd_law_pool "_law_pool" = true)
    (k_law_pool : PySem.W.keepIn K (.ref f_law_pool) = true)
    (a_law_ties : PySem.W.nsIn K mainGlobals "_law_ties" = some (some (.ref f_law_ties)))
    (l_law_ties : K.lookup f_law_ties = some ⟨oc_law_ties, od_law_ties, .func (PySem.W.fnOf "_law_ties" "_law_ties" (defArgs s_law_ties) (defBody s_law_ties) (defScope s_law_ties) .none kV_law_ties dc_law_ties pm_law_ties an_law_ties cd_law_ties ct_law_ties), sl_law_ties⟩)
    (c_law_ties : PySem.W.codeIn K cd_law_ties "_law_ties" = true)
    (k_law_ties : PySem.W.keepIn K (.ref f_law_ties) = true)
    (a_law_turned : PySem.W.nsIn K mainGlobals "_law_turned" = some (some (.ref f_law_turned)))
    (l_law_turned : K.lookup f_law_turned = some ⟨oc_law_turned, od_law_turned, .func (PySem.W.fnOf "_law_turned" "_law_turned" (defArgs s_law_turned) (defBody s_law_turned) (defScope s_law_turned) .none kV_law_turned dc_law_turned pm_law_turned an_law_turned cd_law_turned ct_law_turned), sl_law_turned⟩)
    (c_law_turned : PySem.W.codeIn K cd_law_turned "_law_turned" = true)
    (k_law_turned : PySem.W.keepIn K (.ref f_law_turned) = true)
    (a_law_nears : PySem.W.nsIn K mainGlobals "_law_nears" = some (some (.ref f_law_nears)))
    (l_law_nears : K.lookup f_law_nears = some ⟨oc_law_nears, od_law_nears, .func (PySem.W.fnOf "_law_nears" "_law_nears" (defArgs s_law_nears) (defBody s_law_nears) (defScope s_law_nears) .none kV_law_nears dc_law_nears pm_law_nears an_law_nears cd_law_nears ct_law_nears), sl_law_nears⟩)
    (c_law_nears : PySem.W.codeIn K cd_law_nears "_law_nears" = true)
    (k_law_nears : PySem.W.keepIn K (.ref f_law_nears) = true)
    (a_law_some : PySem.W.nsIn K mainGlobals "_law_some" = some (some (.ref f_law_some)))
    (l_law_some : K.lookup f_law_some = some ⟨oc_law_some, od_law_some, .func (PySem.W.fnOf "_law_some" "_law_some" (defArgs s_law_some) (defBody s_law_some) (defScope s_law_some) .none kV_law_some dc_law_some pm_law_some an_law_some cd_law_some ct_law_some), sl_law_some⟩)
    (c_law_some : PySem.W.codeIn K cd_law_some "_law_some" = true)
    (k_law_some : PySem.W.keepIn K (.ref f_law_some) = true)
    (a_law_apart_from : PySem.W.nsIn K mainGlobals "_law_apart_from" = some (some (.ref f_law_apart_from)))
    (l_law_apart_from : K.lookup f_law_apart_from = some ⟨oc_law_apart_from, od_law_apart_from, .func (PySem.W.fnOf "_law_apart_from" "_law_apart_from" (defArgs s_law_apart_from) (defBody s_law_apart_from) (defScope s_law_apart_from) .none kV_law_apart_from dc_law_apart_from pm_law_apart_from an_law_apart_from cd_law_apart_from ct_law_apart_from), sl_law_apart_from⟩)
    (c_law_apart_from : PySem.W.codeIn K cd_law_apart_from "_law_apart_from" = true)
    (k_law_apart_from : PySem.W.keepIn K (.ref f_law_apart_from) = true)
    (a_law_played : PySem.W.nsIn K mainGlobals "_law_played" = some (some (.ref f_law_played)))
    (l_law_played : K.lookup f_law_played = some ⟨oc_law_played, od_law_played, .func (PySem.W.fnOf "_law_played" "_law_played" (defArgs s_law_played) (defBody s_law_played) (defScope s_law_played) .none kV_law_played dc_law_played pm_law_played an_law_played cd_law_played ct_law_played), sl_law_played⟩)
    (c_law_played : PySem.W.codeIn K cd_law_played "_law_played" = true)
    (k_law_played : PySem.W.keepIn K (.ref f_law_played) = true)
    (a_law : PySem.W.nsIn K mainGlobals "law" = some (some (.ref f_law)))
    (l_law : K.lookup f_law = some ⟨oc_law, od_law, .func (PySem.W.fnOf "law" "law" (defArgs s_law) (defBody s_law) (defScope s_law) .none kV_law dc_law pm_law an_law cd_law ct_law), sl_law⟩)
    (c_law : PySem.W.codeIn K cd_law "law" = true)
    (k_law : PySem.W.keepIn K (.ref f_law) = true)
    (aC : PySem.W.nsIn K mainGlobals "Web" = some (some (.ref C)))
    (aI : PySem.W.findIn K (.ref C) "__init__" = some (some (.ref fI)))
    (lI : K.lookup fI = some ⟨ocI, odI, .func (PySem.W.fnOf "__init__" "Web.__init__" (defArgs s_WebInit) (defBody s_WebInit) (defScope s_WebInit) .none kVI dcI pmI anI cdI ctI), slI⟩)
    (cI : PySem.W.codeIn K cdI "Web.__init__" = true)
    (kI : PySem.W.keepIn K (.ref fI) = true)
    (iI : PySem.W.isFn K (.ref fI) = true)
    (pg : PySem.W.plainGet K C Str.empty = true)
    (hd : PySem.W.hasDictIn K C = true)
    (po : PySem.W.plainOver K C = true)
    (sa : PySem.W.findIn K (.ref C) "__setattr__" = some (some (.builtin "object.__setattr__")))
    (mkC : PySem.W.makesIn K C = true)
    (kC : PySem.W.keepIn K (.ref C) = true)
    (nP : PySem.W.findIn K (.ref C) "places" = some none)
    (nT : PySem.W.findIn K (.ref C) "ties" = some none)
    (m_BadPlaces : PySem.W.nsIn K mainGlobals "BadPlaces" = some (some (.ref c_BadPlaces)))
    (q_BadPlaces : PySem.W.keepIn K (.ref c_BadPlaces) = true)
    (e_BadPlaces : PySem.W.excIn K c_BadPlaces [.type "ValueError", .type "Exception", .type "BaseException", .type "object"] "ValueError.__new__" = true)
    (s_BadPlaces : PySem.W.subIn K (.ref c_BadPlaces) (.type "BaseException") = some true)
    (t_BadPlaces : PySem.W.typeIn K (.ref c_BadPlaces) = some (.type "type"))
    (m_BadTie : PySem.W.nsIn K mainGlobals "BadTie" = some (some (.ref c_BadTie)))
    (q_BadTie : PySem.W.keepIn K (.ref c_BadTie) = true)
    (e_BadTie : PySem.W.excIn K c_BadTie [.type "ValueError", .type "Exception", .type "BaseException", .type "object"] "ValueError.__new__" = true)
    (s_BadTie : PySem.W.subIn K (.ref c_BadTie) (.type "BaseException") = some true)
    (t_BadTie : PySem.W.typeIn K (.ref c_BadTie) = some (.type "type"))
    (z_any : PySem.W.nsIn K mainGlobals "any" = some none)
    (z_bool : PySem.W.nsIn K mainGlobals "bool" = some none)
    (z_int : PySem.W.nsIn K mainGlobals "int" = some none)
    (z_isinstance : PySem.W.nsIn K mainGlobals "isinstance" = some none)
    (z_len : PySem.W.nsIn K mainGlobals "len" = some none)
    (z_max : PySem.W.nsIn K mainGlobals "max" = some none)
    (z_min : PySem.W.nsIn K mainGlobals "min" = some none)
    (z_range : PySem.W.nsIn K mainGlobals "range" = some none)
    (z_sorted : PySem.W.nsIn K mainGlobals "sorted" = some none)
    (z_sum : PySem.W.nsIn K mainGlobals "sum" = some none)
    (z_tuple : PySem.W.nsIn K mainGlobals "tuple" = some none)
    (g_MOST_PLACES : PySem.W.nsIn K mainGlobals "MOST_PLACES" = some (some (.int 60 t_MOST_PLACES)))
    (uL : cd_law = .ref cL)
    (vL : K.lookup cL = some ⟨.type "code", ddL, .fields vsL, slL⟩)
    (wL : vsL[11]? = some (.ref PL))
    (w18 : vsL.getD 18 .none = .str file tf)
    (w7 : vsL.getD 7 .none = .int flags tg)
    (w9 : vsL.getD 9 .none = .bool inF)
    (w10 : vsL.getD 10 .none = .int text tt)
    (wne : (cL == PL) = false)
    (wno : K.lookup PL = none)
    : LamX.LawAtS l w K (L2.CX l.prog w) 4 63 "script" mg fa h := by
  have e := hfa.symm.trans (PySem.W.mg_of X G a_law)
  cases e
  subst uL
  have T : Txt K mg C := {
    apart_call := ⟨f_apart_call, _, fun_mk (st := s_apart_call) l_apart_call c_apart_call k_apart_call, (fun_mk (st := s_apart_call) l_apart_call c_apart_call k_apart_call).binds (ps := ["web", "some", "standing"]) (fun _ _ _ _ _ _ us hl => match us, hl with | [_, _, _], _ => rfl), PySem.W.mg_of X G a_apart_call, k_apart_call⟩
    law_cell_at := ⟨f_law_cell_at, _, fun_mk (st := s_law_cell_at) l_law_cell_at c_law_cell_at k_law_cell_at, (fun_mk (st := s_law_cell_at) l_law_cell_at c_law_cell_at k_law_cell_at).binds (ps := ["script", "k"]) (fun _ _ _ _ _ _ us hl => match us, hl with | [_, _], _ => rfl), PySem.W.mg_of X G a_law_cell_at, k_law_cell_at⟩
    law_mixed := ⟨f_law_mixed, _, fun_mk (st := s_law_mixed) l_law_mixed c_law_mixed k_law_mixed, (fun_mk (st := s_law_mixed) l_law_mixed c_law_mixed k_law_mixed).binds (ps := ["cell", "salt"]) (fun _ _ _ _ _ _ us hl => match us, hl with | [_, _], _ => rfl), PySem.W.mg_of X G a_law_mixed, k_law_mixed⟩
    law_whole := ⟨f_law_whole, _, fun_mk (st := s_law_whole) l_law_whole c_law_whole k_law_whole, (fun_mk (st := s_law_whole) l_law_whole c_law_whole k_law_whole).binds (ps := ["found"]) (fun _ _ _ _ _ _ us hl => match us, hl with | [_], _ => rfl), PySem.W.mg_of X G a_law_whole, k_law_whole⟩
    law_pool := ⟨f_law_pool, _, fun_mk (st := s_law_pool) l_law_pool c_law_pool k_law_pool, (fun_mk (st := s_law_pool) l_law_pool c_law_pool k_law_pool).binds (ps := ["script", "start"]) (fun _ _ _ _ _ _ us hl => match us, hl with | [_, _], _ => rfl), PySem.W.mg_of X G a_law_pool, k_law_pool⟩
    law_ties := ⟨f_law_ties, _, fun_mk (st := s_law_ties) l_law_ties c_law_ties k_law_ties, (fun_mk (st := s_law_ties) l_law_ties c_law_ties k_law_ties).binds (ps := ["pool", "many", "thick"]) (fun _ _ _ _ _ _ us hl => match us, hl with | [_, _, _], _ => rfl), PySem.W.mg_of X G a_law_ties, k_law_ties⟩
    law_turned := ⟨f_law_turned, _, fun_mk (st := s_law_turned) l_law_turned c_law_turned k_law_turned, (fun_mk (st := s_law_turned) l_law_turned c_law_turned k_law_turned).binds (ps := ["ties", "cell"]) (fun _ _ _ _ _ _ us hl => match us, hl with | [_, _], _ => rfl), PySem.W.mg_of X G a_law_turned, k_law_turned⟩
    law_nears := ⟨f_law_nears, _, fun_mk (st := s_law_nears) l_law_nears c_law_nears k_law_nears, (fun_mk (st := s_law_nears) l_law_nears c_law_nears k_law_nears).binds (ps := ["ties", "many"]) (fun _ _ _ _ _ _ us hl => match us, hl with | [_, _], _ => rfl), PySem.W.mg_of X G a_law_nears, k_law_nears⟩
    law_some := ⟨f_law_some, _, fun_mk (st := s_law_some) l_law_some c_law_some k_law_some, (fun_mk (st := s_law_some) l_law_some c_law_some k_law_some).binds (ps := ["cell", "many", "often"]) (fun _ _ _ _ _ _ us hl => match us, hl with | [_, _, _], _ => rfl), PySem.W.mg_of X G a_law_some, k_law_some⟩
    law_apart_from := ⟨f_law_apart_from, _, fun_mk (st := s_law_apart_from) l_law_apart_from c_law_apart_from k_law_apart_from, (fun_mk (st := s_law_apart_from) l_law_apart_from c_law_apart_from k_law_apart_from).binds (ps := ["nears", "start"]) (fun _ _ _ _ _ _ us hl => match us, hl with | [_, _], _ => rfl), PySem.W.mg_of X G a_law_apart_from, k_law_apart_from⟩
    law_played := ⟨f_law_played, _, fun_mk (st := s_law_played) l_law_played c_law_played k_law_played, (fun_mk (st := s_law_played) l_law_played c_law_played k_law_played).binds (ps := ["web", "nears", "some", "standing", "pool"]) (fun _ _ _ _ _ _ us hl => match us, hl with | [_, _, _, _, _], _ => rfl), PySem.W.mg_of X G a_law_played, k_law_played⟩
    law := ⟨_, _, fun_mk (st := s_law) l_law c_law k_law, (fun_mk (st := s_law) l_law c_law k_law).binds (ps := ["script"]) (fun _ _ _ _ _ _ us hl => match us, hl with | [_], _ => rfl), PySem.W.mg_of X G a_law, k_law⟩
    web := ⟨⟨pg, hd, po, sa⟩, nP, nT⟩
    webM := ⟨fI, _, fun_mk (st := s_WebInit) lI cI kI, (fun_mk (st := s_WebInit) lI cI kI).binds (ps := ["self", "places", "ties"]) (fun _ _ _ _ _ _ us hl => match us, hl with | [_, _, _], _ => rfl), ⟨mkC, aI, iI, kC⟩, PySem.W.mg_of X G aC⟩
    x_BadPlaces := ⟨c_BadPlaces, PySem.W.mg_of X G m_BadPlaces, q_BadPlaces, e_BadPlaces, s_BadPlaces, t_BadPlaces⟩
    x_BadTie := ⟨c_BadTie, PySem.W.mg_of X G m_BadTie, q_BadTie, e_BadTie, s_BadTie, t_BadTie⟩
    z_any := PySem.W.mg_none_of X G z_any
    z_bool := PySem.W.mg_none_of X G z_bool
    z_int := PySem.W.mg_none_of X G z_int
    z_isinstance := PySem.W.mg_none_of X G z_isinstance
    z_len := PySem.W.mg_none_of X G z_len
    z_max := PySem.W.mg_none_of X G z_max
    z_min := PySem.W.mg_none_of X G z_min
    z_range := PySem.W.mg_none_of X G z_range
    z_sorted := PySem.W.mg_none_of X G z_sorted
    z_sum := PySem.W.mg_none_of X G z_sum
    z_tuple := PySem.W.mg_none_of X G z_tuple
    c_MOST_PLACES := ⟨_, PySem.W.mg_of X G g_MOST_PLACES⟩ }
  have hP := own cL PL _ _ _ _ _ _ l_law rfl rfl vL wL
  refine ⟨PySem.W.fnOf "law" "law" (defArgs s_law) (defBody s_law) (defScope s_law) .none kV_law dc_law pm_law an_law (.ref cL) ct_law, [(cL, PL)], spLX K [(PL, "law.<locals>.<lambda>")] (fun ns => ns.length ≤ 63), fun p hp => ?_, fun p hp => ?_, fun p hp => ?_, fun s v => .of_eq rfl, fun H a ns hl _ ht hs => ⟨a, ns, rfl, hs, fun p hp => ?_, hl, fun _ => rfl⟩, fun base kb nb tb => ?_⟩
  · rw [List.mem_singleton.mp hp]; exact hP
  · rw [List.mem_singleton.mp hp]; exact wno
  · rw [List.mem_singleton.mp hp]
    refine ⟨_, vsL, file, tf, flags, tg, inF, text, tt, X _ _ vL, rfl, rfl, wL, ?_, w18, w7, w9, w10, fun z => by have zz : cL = PL := z; subst zz; simp at wne⟩
    rw [Array.getD_eq_getD_getElem?, wL]; rfl
  · rw [List.mem_singleton.mp hp]; exact LamX.TabS.nil (ht (cL, PL) (List.mem_singleton.mpr rfl))
  · exact ok_law (base := base) T l_law c_law (tb (cL, PL) (List.mem_singleton.mpr rfl)) (fun ns hn => law_true ns hn)
end K45

open PySem PySem.W PyProof.Rows in
set_option maxRecDepth 100000 in
set_option maxHeartbeats 0 in
theorem PySem.Challenge.cw_guardround_k45_whole_calls_from_a_set_ap_holds : PySem.Challenge.rw_guardround_k45_whole_calls_from_a_set_ap.Holds := by
  w_on; o_law; k_head; (case hw => w_witness2)
  k_fill
  refine LamX.walk_ofOwn (l := PySem.Challenge.rw_guardround_k45_whole_calls_from_a_set_ap) (n := 63) (k := 4) (x := "script") (CX := fun w => L2.CX (PySem.Challenge.rw_guardround_k45_whole_calls_from_a_set_ap).prog w) rfl (by decide) rfl ⟨rfl, by decide, by decide⟩ (by decide +kernel) (fun w h Y => by first | exact PySem.W.kIn_of Y | exact Y.1) ?F ?Z
  case Z => intro w H s e s1 hx; obtain ⟨_, _, _, _, _, _, _, _, _, _, _, _, z⟩ := hx; exact z
  case F =>
    intro w mg fa h Y KX G hmg own
    refine' K45.all_mk KX G hmg own ?a_apart_call ?l_apart_call ?c_apart_call ?k_apart_call ?a_law_cell_at ?l_law_cell_at ?c_law_cell_at ?k_law_cell_at ?a_law_mixed ?l_law_mixed ?c_law_mixed ?k_law_mixed ?a_law_whole ?l_law_whole ?c_law_whole ?k_law_whole ?a_law_pool ?l_law_pool ?c_law_pool ?k_law_pool ?a_law_ties ?l_law_ties ?c_law_ties ?k_law_ties ?a_law_turned ?l_law_turned ?c_law_turned ?k_law_turned ?a_law_nears ?l_law_nears ?c_law_nears ?k_law_nears ?a_law_some ?l_law_some ?c_law_some ?k_law_some ?a_law_apart_from ?l_law_apart_from ?c_law_apart_from ?k_law_apart_from ?a_law_played ?l_law_played ?c_law_played ?k_law_played ?a_law ?l_law ?c_law ?k_law ?aC ?aI ?lI ?cI ?kI ?iI ?pg ?hd ?po ?sa ?mkC ?kC ?nP ?nT ?m_BadPlaces ?q_BadPlaces ?e_BadPlaces ?s_BadPlaces ?t_BadPlaces ?m_BadTie ?q_BadTie ?e_BadTie ?s_BadTie ?t_BadTie ?z_any ?z_bool ?z_int ?z_isinstance ?z_len ?z_max ?z_min ?z_range ?z_sorted ?z_sum ?z_tuple ?g_MOST_PLACES ?uL ?vL ?wL ?w18 ?w7 ?w9 ?w10 ?wne ?wno
    (case a_apart_call => k_is)
    (case l_apart_call => k_is)
    (case c_apart_call => k_is)
    (case k_apart_call => k_is)
    (case a_law_cell_at => k_is)
    (case l_law_cell_at => k_is)
    (case c_law_cell_at => k_is)
    (case k_law_cell_at => k_is)
    (case a_law_mixed => k_is)
    (case l_law_mixed => k_is)
    (case c_law_mixed => k_is)
    (case k_law_mixed => k_is)
    (case a_law_whole => k_is)
    (case l_law_whole => k_is)
    (case c_law_whole => k_is)
    (case k_law_whole => k_is)
    (case a_law_pool => k_is)
    (case l_law_pool => k_is)
    (case c_law_pool => k_is)
    (case k_law_pool => k_is)
    (case a_law_ties => k_is)
    (case l_law_ties => k_is)
    (case c_law_ties => k_is)
    (case k_law_ties => k_is)
    (case a_law_turned => k_is)
    (case l_law_turned => k_is)
    (case c_law_turned => k_is)
    (case k_law_turned => k_is)
    (case a_law_nears => k_is)
    (case l_law_nears => k_is)
    (case c_law_nears => k_is)
    (case k_law_nears => k_is)
    (case a_law_some => k_is)
    (case l_law_some => k_is)
    (case c_law_some => k_is)
    (case k_law_some => k_is)
    (case a_law_apart_from => k_is)
    (case l_law_apart_from => k_is)
    (case c_law_apart_from => k_is)
    (case k_law_apart_from => k_is)
    (case a_law_played => k_is)
    (case l_law_played => k_is)
    (case c_law_played => k_is)
    (case k_law_played => k_is)
    (case a_law => k_is)
    (case l_law => k_is)
    (case c_law => k_is)
    (case k_law => k_is)
    (case aC => k_is)
    (case aI => k_is)
    (case lI => k_is)
    (case cI => k_is)
    (case kI => k_is)
    (case iI => k_is)
    (case pg => k_is)
    (case hd => k_is)
    (case po => k_is)
    (case sa => k_is)
    (case mkC => k_is)
    (case kC => k_is)
    (case nP => k_is)
    (case nT => k_is)
    (case m_BadPlaces => k_is)
    (case q_BadPlaces => k_is)
    (case e_BadPlaces => k_exc)
    (case s_BadPlaces => k_is)
    (case t_BadPlaces => k_is)
    (case m_BadTie => k_is)
    (case q_BadTie => k_is)
    (case e_BadTie => k_exc)
    (case s_BadTie => k_is)
    (case t_BadTie => k_is)
    (case z_any => k_is)
    (case z_bool => k_is)
    (case z_int => k_is)
    (case z_isinstance => k_is)
    (case z_len => k_is)
    (case z_max => k_is)
    (case z_min => k_is)
    (case z_range => k_is)
    (case z_sorted => k_is)
    (case z_sum => k_is)
    (case z_tuple => k_is)
    (case g_MOST_PLACES => k_is)
    (case uL => first | rfl | k_is)
    (case vL => k_is)
    (case wL => first | rfl | k_is)
    (case w18 => first | rfl | k_is)
    (case w7 => first | rfl | k_is)
    (case w9 => first | rfl | k_is)
    (case w10 => first | rfl | k_is)
    (case wne => first | rfl | k_is)
    (case wno => first | rfl | (with_unfolding_all rfl) | decide +kernel)

