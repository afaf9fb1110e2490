import PyProof.Rows.All
import Wide.All
import OpenK.AllK
import Wide.FinOn
import HandS.ForExc
import HandS.ForMost
import HandS.TupAny
import HandS.TupMul
import HandS.Style
import HandS.IsInst
import HandS.WordsDict
import HandS.Codes
import HandS.Wide
import HandS.SetFor
import HandS.SortInts
import HandS.Strs
import HandS.WordsExc
import HandS.ExcInit
import HandS.ExcField
import HandS.ExcCtx
import HandS.TryOnly
import KE.KExcSuper
import KE.GoesMore
import PyProof.Draws
import PyProof.EnumMake
import PySem.Challenge.RW_wireagreed_k13_whole_how_far_clocks_diff
set_option Elab.async false
set_option linter.all false
set_option maxRecDepth 100000
/-! A small language over plain data trees, and how it lies over the hand layer: worlds, data, states. -/
namespace Mp
open PySem PySem.Spec PyProof.Rows L2

/-- plain data: what cannot change any more -/
inductive D where
  | non | bl (b : Bool) | int (i : Int) | str (x : Str) | ty (n : String)
  | tup (ds : List D) | lst (ds : List D) | dic (ks : List (Key × D)) | obj (n : Nat) | loc (ns : List Int)

/-- a slot of a def: not set, data, a list of the def's own that it changes in place -/
inductive Sl where
  | un | v (d : D) | ol (ds : List D) | od (ks : List (Key × D))
/-- an object: an instance (its class, its fields), a list that many hold, a dict that many hold -/
inductive Ob where
  | ins (c : Str) (fs : List (Str × D)) | ls (ds : List D) | dk (ks : List (Key × D))
abbrev Env := List Sl
abbrev Obs := List Ob

inductive R (α : Type) where
  | ok (a : α) (o : Obs) | ex (c : Str) (a : D) (o : Obs) | bad
inductive RS where
  | nx (e : Env) (o : Obs) | rt (d : D) (o : Obs) | bk (e : Env) (o : Obs) | ct (e : Env) (o : Obs) | ex (c : Str) (a : D) (e : Env) (o : Obs) | bad

def R.bind {α β : Type} (x : R α) (f : α → Obs → R β) : R β := match x with
  | .ok a o => f a o
  | .ex c a o => .ex c a o
  | .bad => .bad
/-- what raises is not followed -/
def R.noex {α : Type} : R α → R α
  | .ex _ _ _ => .bad
  | x => x
@[simp] theorem R.noex_ok {α : Type} (a : α) (o : Obs) : (R.ok a o).noex = .ok a o := (rfl)
@[simp] theorem R.noex_bad {α : Type} : (R.bad : R α).noex = .bad := (rfl)
@[simp] theorem R.noex_ex {α : Type} (c : Str) (a : D) (o : Obs) : (R.ex c a o : R α).noex = .bad := (rfl)
def R.opt {α : Type} (o : Obs) : Option α → R α
  | some a => .ok a o
  | none => .bad
def R.map {α β : Type} (f : α → β) (x : R α) : R β := x.bind fun a o => .ok (f a) o
@[simp] theorem R.bind_ok {α β : Type} (a : α) (o : Obs) (f : α → Obs → R β) : (R.ok a o).bind f = f a o := (rfl)
@[simp] theorem R.bind_bad {α β : Type} (f : α → Obs → R β) : (R.bad : R α).bind f = .bad := (rfl)
@[simp] theorem R.bind_ex {α β : Type} (c : Str) (a : D) (o : Obs) (f : α → Obs → R β) : (R.ex c a o : R α).bind f = .ex c a o := (rfl)
@[simp] theorem R.opt_some {α : Type} (a : α) (o : Obs) : R.opt o (some a) = .ok a o := (rfl)
@[simp] theorem R.opt_none {α : Type} (o : Obs) : (R.opt o none : R α) = .bad := (rfl)
@[simp] theorem R.map_ok {α β : Type} (a : α) (o : Obs) (f : α → β) : (R.ok a o).map f = .ok (f a) o := (rfl)
@[simp] theorem R.map_bad {α β : Type} (f : α → β) : (R.bad : R α).map f = .bad := (rfl)
@[simp] theorem R.map_ex {α β : Type} (c : Str) (a : D) (o : Obs) (f : α → β) : (R.ex c a o : R α).map f = .ex c a o := (rfl)


/-! ### worlds -/
/-- what an address is for: data that stands, a list of the slot i, a list being made, a part of an object, what callers hold -/
inductive Role where
  | fro (o : HO) | own (i : Nat) | acc | ob (n : Nat) | dx (n : Nat) | keep (o : HO)
def Role.loose : Role → Bool
  | .own _ => true | .acc => true | _ => false
def Role.solid : Role → Bool
  | .own _ => false | .acc => false | .keep _ => false | _ => true
theorem Role.solid_loose {r : Role} (h : r.solid = true) : r.loose = false := by cases r <;> first | rfl | (simp [Role.solid] at h)
structure Wd where
  ρ : Addr → Option Role
  A : List Addr
def Wd.F (W : Wd) : Hp := fun p => match W.ρ p with | some (.fro o) => some o | _ => none
def Wd.put (W : Wd) (p : Addr) (r : Role) : Wd := { W with ρ := fun q => if q = p then some r else W.ρ q }
theorem Wd.put_same {W : Wd} {p : Addr} {r : Role} : (W.put p r).ρ p = some r := by simp [Wd.put]
theorem Wd.put_ne {W : Wd} {p q : Addr} {r : Role} (h : q ≠ p) : (W.put p r).ρ q = W.ρ q := by simp [Wd.put, h]
theorem Wd.F_of {W : Wd} {p : Addr} {o : HO} : W.F p = some o ↔ W.ρ p = some (.fro o) := by
  unfold Wd.F
  cases h : W.ρ p with
  | none => simp
  | some r => cases r <;> simp

/-- data that stands keeps standing, objects keep their addresses -/
structure Wd.dle (W W' : Wd) : Prop where
  f : ∀ p o, W.ρ p = some (.fro o) → W'.ρ p = some (.fro o)
  a : ∀ (n : Nat) p, W.A[n]? = some p → W'.A[n]? = some p
theorem Wd.dle.refl {W : Wd} : W.dle W := ⟨fun _ _ h => h, fun _ _ h => h⟩
theorem Wd.dle.trans {W W1 W2 : Wd} (a : W.dle W1) (b : W1.dle W2) : W.dle W2 := ⟨fun p o h => b.f p o (a.f p o h), fun n p h => b.a n p (a.a n p h)⟩

section
variable (K : PySem.W.Frag)
mutual
inductive Rep (F : Hp) (A : List Addr) : V → D → Prop
  | non : Rep F A .non .non
  | bl (b : Bool) : Rep F A (.bl b) (.bl b)
  | int (i : Int) : Rep F A (.int i) (.int i)
  | str (x : Str) : Rep F A (.str x) (.str x)
  | ty (n : String) : Rep F A (.ty n) (.ty n)
  | tup {p : Addr} {vs : List V} {ds : List D} : SqT K F p vs → Reps F A vs ds → Rep F A (.ref p) (.tup ds)
  | lst {p : Addr} {vs : List V} {ds : List D} : F p = some (.lst vs) → Reps F A vs ds → Rep F A (.ref p) (.lst ds)
  | loc {p : Addr} {ns : List Int} : SqL K F p (ns.map V.int) → Rep F A (.ref p) (.loc ns)
  | dic {p : Addr} {vs : List (Key × V)} {ds : List (Key × D)} : F p = some (.dK vs) → vs.map (·.1) = ds.map (·.1) → Reps F A (vs.map (·.2)) (ds.map (·.2)) → Rep F A (.ref p) (.dic ds)
  | obj {p : Addr} {n : Nat} : A[n]? = some p → Rep F A (.ref p) (.obj n)
inductive Reps (F : Hp) (A : List Addr) : List V → List D → Prop
  | nil : Reps F A [] []
  | cons {v : V} {vs : List V} {d : D} {ds : List D} : Rep F A v d → Reps F A vs ds → Reps F A (v :: vs) (d :: ds)
end
end

theorem SqL.mono {K : PySem.W.Frag} {F F' : Hp} {p : Addr} {vs : List V} (h : SqL K F p vs) (m : ∀ p o, F p = some o → F' p = some o) : SqL K F' p vs := by
  rcases h with (h | ⟨o, h⟩) | h
  · exact .inl (.inl (m _ _ h))
  · exact .inl (.inr ⟨o, m _ _ h⟩)
  · exact .inr h
theorem SqT.mono {K : PySem.W.Frag} {F F' : Hp} {p : Addr} {vs : List V} (h : SqT K F p vs) (m : ∀ p o, F p = some o → F' p = some o) : SqT K F' p vs := by
  rcases h with (h | ⟨o, h⟩) | h
  · exact .inl (.inl (m _ _ h))
  · exact .inl (.inr ⟨o, m _ _ h⟩)
  · exact .inr h

section
variable {K : PySem.W.Frag}
mutual
theorem Rep.mono {F F' : Hp} {A A' : List Addr} (m : ∀ p o, F p = some o → F' p = some o) (a : ∀ (n : Nat) p, A[n]? = some p → A'[n]? = some p) : ∀ {v : V} {d : D}, Rep K F A v d → Rep K F' A' v d
  | _, _, .non => .non
  | _, _, .bl b => .bl b
  | _, _, .int i => .int i
  | _, _, .str x => .str x
  | _, _, .ty n => .ty n
  | _, _, .tup h r => .tup (SqT.mono h m) (Reps.mono m a r)
  | _, _, .lst h r => .lst (m _ _ h) (Reps.mono m a r)
  | _, _, .loc h => .loc (SqL.mono h m)
  | _, _, .dic h e r => .dic (m _ _ h) e (Reps.mono m a r)
  | _, _, .obj h => .obj (a _ _ h)
theorem Reps.mono {F F' : Hp} {A A' : List Addr} (m : ∀ p o, F p = some o → F' p = some o) (a : ∀ (n : Nat) p, A[n]? = some p → A'[n]? = some p) : ∀ {vs : List V} {ds : List D}, Reps K F A vs ds → Reps K F' A' vs ds
  | _, _, .nil => .nil
  | _, _, .cons h r => .cons (Rep.mono m a h) (Reps.mono m a r)
end
end

abbrev Wd.rep (K : PySem.W.Frag) (W : Wd) (v : V) (d : D) : Prop := Rep K W.F W.A v d
abbrev Wd.reps (K : PySem.W.Frag) (W : Wd) (vs : List V) (ds : List D) : Prop := Reps K W.F W.A vs ds
section
variable {K : PySem.W.Frag} {W W' : Wd}
theorem Wd.dle.F (l : W.dle W') : ∀ p o, W.F p = some o → W'.F p = some o := fun p o h => Wd.F_of.mpr (l.f p o (Wd.F_of.mp h))
theorem Wd.dle.rep (l : W.dle W') {v : V} {d : D} (h : W.rep K v d) : W'.rep K v d := Rep.mono l.F l.a h
theorem Wd.dle.reps (l : W.dle W') {vs : List V} {ds : List D} (h : W.reps K vs ds) : W'.reps K vs ds := Reps.mono l.F l.a h
end
section
variable {K : PySem.W.Frag} {F : Hp} {A : List Addr}
theorem Reps.length : ∀ {vs : List V} {ds : List D}, Reps K F A vs ds → vs.length = ds.length
  | _, _, .nil => rfl
  | _, _, .cons _ r => by simp [Reps.length r]
theorem Reps.get : ∀ {vs : List V} {ds : List D} {i : Nat} {d : D}, Reps K F A vs ds → ds[i]? = some d → ∃ v, vs[i]? = some v ∧ Rep K F A v d
  | _, _, _, _, .nil, e => by simp at e
  | _, _, 0, _, .cons h _, e => by simp at e; subst e; exact ⟨_, rfl, h⟩
  | _, _, i + 1, _, .cons _ r, e => by
    obtain ⟨v, h1, h2⟩ := Reps.get (i := i) r (by simpa using e)
    exact ⟨v, by simpa using h1, h2⟩
theorem Reps.get' : ∀ {vs : List V} {ds : List D} {i : Nat} {v : V}, Reps K F A vs ds → vs[i]? = some v → ∃ d, ds[i]? = some d ∧ Rep K F A v d
  | _, _, _, _, .nil, e => by simp at e
  | _, _, 0, _, .cons h _, e => by simp at e; subst e; exact ⟨_, rfl, h⟩
  | _, _, i + 1, _, .cons _ r, e => by
    obtain ⟨v, h1, h2⟩ := Reps.get' (i := i) r (by simpa using e)
    exact ⟨v, by simpa using h1, h2⟩
theorem Reps.append : ∀ {vs us : List V} {ds es : List D}, Reps K F A vs ds → Reps K F A us es → Reps K F A (vs ++ us) (ds ++ es)
  | _, _, _, _, .nil, s => s
  | _, _, _, _, .cons h r, s => .cons h (Reps.append r s)
theorem Reps.take : ∀ {vs : List V} {ds : List D} (n : Nat), Reps K F A vs ds → Reps K F A (vs.take n) (ds.take n)
  | _, _, 0, _ => .nil
  | _, _, _ + 1, .nil => .nil
  | _, _, n + 1, .cons h r => .cons h (Reps.take n r)
theorem Reps.drop : ∀ {vs : List V} {ds : List D} (n : Nat), Reps K F A vs ds → Reps K F A (vs.drop n) (ds.drop n)
  | _, _, 0, r => r
  | _, _, _ + 1, .nil => .nil
  | _, _, n + 1, .cons _ r => Reps.drop n r
theorem Reps.reverse {vs : List V} {ds : List D} (h : Reps K F A vs ds) : Reps K F A vs.reverse ds.reverse := by
  induction h using Reps.rec (motive_1 := fun _ _ _ => True) with
  | nil => exact .nil
  | cons h r _ ih => rw [List.reverse_cons, List.reverse_cons]; exact ih.append (.cons h .nil)
  | _ => trivial
theorem Reps.set : ∀ {vs : List V} {ds : List D} {v : V} {d : D} (i : Nat), Rep K F A v d → Reps K F A vs ds → Reps K F A (vs.set i v) (ds.set i d)
  | _, _, _, _, _, _, .nil => .nil
  | _, _, _, _, 0, q, .cons _ r => .cons q r
  | _, _, _, _, i + 1, q, .cons h r => .cons h (Reps.set i q r)
theorem Reps.eraseIdx : ∀ {vs : List V} {ds : List D} (i : Nat), Reps K F A vs ds → Reps K F A (vs.eraseIdx i) (ds.eraseIdx i)
  | _, _, _, .nil => .nil
  | _, _, 0, .cons _ r => r
  | _, _, i + 1, .cons h r => .cons h (Reps.eraseIdx i r)
theorem Reps.one {v : V} {d : D} (h : Rep K F A v d) : Reps K F A [v] [d] := .cons h .nil
theorem Reps.ints : ∀ (ns : List Int), Reps K F A (ns.map V.int) (ns.map D.int)
  | [] => .nil
  | n :: ns => .cons (.int n) (Reps.ints ns)
theorem Reps.strs : ∀ (ns : List Str), Reps K F A (ns.map V.str) (ns.map D.str)
  | [] => .nil
  | n :: ns => .cons (.str n) (Reps.strs ns)
theorem Reps.to_ints : ∀ {ns : List Int} {vs : List V}, Reps K F A vs (ns.map D.int) → vs = ns.map V.int
  | [], _, .nil => rfl
  | _ :: ns, _, .cons h r => by cases h; rw [Reps.to_ints r, List.map_cons]
theorem Reps.to_bls : ∀ {ns : List Bool} {vs : List V}, Reps K F A vs (ns.map D.bl) → vs = ns.map V.bl
  | [], _, .nil => rfl
  | _ :: ns, _, .cons h r => by cases h; rw [Reps.to_bls r, List.map_cons]
theorem Reps.to_strs : ∀ {ns : List Str} {vs : List V}, Reps K F A vs (ns.map D.str) → vs = ns.map V.str
  | [], _, .nil => rfl
  | _ :: ns, _, .cons h r => by cases h; rw [Reps.to_strs r, List.map_cons]
theorem Rep.to_int {v : V} {i : Int} (h : Rep K F A v (.int i)) : v = .int i := by cases h; rfl
theorem Rep.to_str {v : V} {x : Str} (h : Rep K F A v (.str x)) : v = .str x := by cases h; rfl
theorem Rep.to_bl {v : V} {x : Bool} (h : Rep K F A v (.bl x)) : v = .bl x := by cases h; rfl
theorem Rep.to_non {v : V} (h : Rep K F A v .non) : v = .non := by cases h; rfl
theorem Rep.to_tup {v : V} {ds : List D} (h : Rep K F A v (.tup ds)) : ∃ p vs, v = .ref p ∧ SqT K F p vs ∧ Reps K F A vs ds := by cases h with | tup a b => exact ⟨_, _, rfl, a, b⟩
theorem Rep.to_lst {v : V} {ds : List D} (h : Rep K F A v (.lst ds)) : ∃ p vs, v = .ref p ∧ F p = some (.lst vs) ∧ Reps K F A vs ds := by cases h with | lst a b => exact ⟨_, _, rfl, a, b⟩
theorem Rep.to_obj {v : V} {n : Nat} (h : Rep K F A v (.obj n)) : ∃ p, v = .ref p ∧ A[n]? = some p := by cases h with | obj a => exact ⟨_, rfl, a⟩
theorem Rep.to_ty {v : V} {n : String} (h : Rep K F A v (.ty n)) : v = .ty n := by cases h; rfl
end

/-! ### states -/
section
variable (K : PySem.W.Frag) (CA : Str → Option Addr)
def ObR (W : Wd) (H : Hp) (n : Nat) (p : Addr) : Ob → Prop
  | .ins c fs => ∃ C dx vs, CA c = some C ∧ H p = some (.ins C dx vs) ∧ W.ρ dx = some (.dx n) ∧ H dx = some (.own p) ∧ vs.map (·.1) = fs.map (·.1) ∧ W.reps K (vs.map (·.2)) (fs.map (·.2))
  | .ls ds => ∃ vs, H p = some (.lst vs) ∧ W.reps K vs ds
  | .dk ks => ∃ vs, H p = some (.dK vs) ∧ vs.map (·.1) = ks.map (·.1) ∧ W.reps K (vs.map (·.2)) (ks.map (·.2))
/-- the heap's side of a state -/
structure HRel (W : Wd) (H : Hp) (obs : Obs) : Prop where
  fro : ∀ p o, W.ρ p = some (.fro o) → H p = some o
  keep : ∀ p o, W.ρ p = some (.keep o) → H p = some o
  live : ∀ p r, W.ρ p = some r → ∃ o, H p = some o
  len : W.A.length = obs.length
  obs : ∀ n ob, obs[n]? = some ob → ∃ p, W.A[n]? = some p ∧ W.ρ p = some (.ob n) ∧ ObR K CA W H n p ob
def SlR (W : Wd) (H : Hp) (i : Nat) (ov : Option V) : Sl → Prop
  | .un => True
  | .v d => ∃ v, ov = some v ∧ W.rep K v d
  | .ol ds => ∃ p vs, ov = some (.ref p) ∧ W.ρ p = some (.own i) ∧ H p = some (.lst vs) ∧ W.reps K vs ds
  | .od ks => ∃ p vs, ov = some (.ref p) ∧ W.ρ p = some (.own i) ∧ H p = some (.dK vs) ∧ vs.map (·.1) = ks.map (·.1) ∧ W.reps K (vs.map (·.2)) (ks.map (·.2))
structure SRel (W : Wd) (σ : L2.St) (H : Hp) (env : Env) (obs : Obs) : Prop where
  h : HRel K CA W H obs
  len : σ.length = env.length
  sl : ∀ i s, env[i]? = some s → SlR K W H i ((σ[i]?).join) s
end

/-- behind an expression: all roles stay, lists of one's own are as they were -/
structure Wd.leE (W W' : Wd) (H H' : Hp) : Prop where
  r : ∀ p r, W.ρ p = some r → W'.ρ p = some r
  o : ∀ p r, W.ρ p = some r → r.loose = true → H' p = H p
  a : ∀ (n : Nat) p, W.A[n]? = some p → W'.A[n]? = some p
/-- behind a call, as its caller sees it: the data and the objects stay -/
structure Wd.leO (W W' : Wd) : Prop where
  r : ∀ p r, W.ρ p = some r → r.solid = true → W'.ρ p = some r
  a : ∀ (n : Nat) p, W.A[n]? = some p → W'.A[n]? = some p
/-- behind a statement: all roles stay but loose ones -/
structure Wd.leS (W W' : Wd) : Prop where
  r : ∀ p r, W.ρ p = some r → r.loose = false → W'.ρ p = some r
  a : ∀ (n : Nat) p, W.A[n]? = some p → W'.A[n]? = some p
section
variable {W W1 W2 W' : Wd} {H H1 H2 H' : Hp}
theorem Wd.leE.refl : W.leE W H H := ⟨fun _ _ h => h, fun _ _ _ _ => rfl, fun _ _ h => h⟩
theorem Wd.leE.trans (a : W.leE W1 H H1) (b : W1.leE W2 H1 H2) : W.leE W2 H H2 :=
  ⟨fun p r h => b.r p r (a.r p r h), fun p r h l => (b.o p r (a.r p r h) l).trans (a.o p r h l), fun n p h => b.a n p (a.a n p h)⟩
theorem Wd.leE.s (a : W.leE W' H H') : W.leS W' := ⟨fun p r h _ => a.r p r h, a.a⟩
theorem Wd.leS.refl : W.leS W := ⟨fun _ _ h _ => h, fun _ _ h => h⟩
theorem Wd.leS.trans (a : W.leS W1) (b : W1.leS W2) : W.leS W2 := ⟨fun p r h l => b.r p r (a.r p r h l) l, fun n p h => b.a n p (a.a n p h)⟩
theorem Wd.leS.o (a : W.leS W') : W.leO W' := ⟨fun p r h l => a.r p r h (Role.solid_loose l), a.a⟩
theorem Wd.leO.d (a : W.leO W') : W.dle W' := ⟨fun p o h => a.r p _ h rfl, a.a⟩
theorem Wd.leS.d (a : W.leS W') : W.dle W' := a.o.d
theorem Wd.leE.d (a : W.leE W' H H') : W.dle W' := a.s.d
end
end Mp

set_option Elab.async false
set_option linter.all false
set_option maxRecDepth 100000
/-! States: what may be done to them; the readings of expressions and statements over data. -/
namespace Mp
open PySem PySem.Spec PyProof.Rows L2

section
variable {K : PySem.W.Frag} {CA : Str → Option Addr} {W W' : Wd} {H H' : Hp} {obs obs' : Obs} {env : Env} {σ : L2.St} {p : Addr}

theorem ObR.mono {n : Nat} {ob : Ob} (l : W.leO W') (hr : W.ρ p = some (.ob n)) (hh : ∀ q r, W.ρ q = some r → r = .ob n ∨ r = .dx n → H' q = H q) (h : ObR K CA W H n p ob) : ObR K CA W' H' n p ob := by
  cases ob with
  | ins c fs =>
    obtain ⟨C, dx, vs, e1, e2, e3, e4, e5, e6⟩ := h
    exact ⟨C, dx, vs, e1, (hh p _ hr (.inl rfl)).trans e2, l.r dx _ e3 rfl, (hh dx _ e3 (.inr rfl)).trans e4, e5, l.d.reps e6⟩
  | ls fs =>
    obtain ⟨vs, e2, e6⟩ := h
    exact ⟨vs, (hh p _ hr (.inl rfl)).trans e2, l.d.reps e6⟩
  | dk ks =>
    obtain ⟨vs, e2, e3, e6⟩ := h
    exact ⟨vs, (hh p _ hr (.inl rfl)).trans e2, e3, l.d.reps e6⟩
theorem HRel.fresh (h : HRel K CA W H obs) (e : H p = none) : W.ρ p = none := by
  cases q : W.ρ p with
  | none => rfl
  | some r => obtain ⟨o, z⟩ := h.live p r q; rw [e] at z; cases z
/-- a world with more roles, a heap that keeps what has a role -/
theorem HRel.mono (h : HRel K CA W H obs) (l : ∀ p r, W.ρ p = some r → W'.ρ p = some r) (ha : W'.A = W.A) (hh : ∀ p r, W.ρ p = some r → H' p = H p)
    (nf : ∀ p o, W'.ρ p = some (.fro o) → W.ρ p = none → H' p = some o) (nk : ∀ p o, W'.ρ p = some (.keep o) → W.ρ p = none → H' p = some o) (nl : ∀ p r, W'.ρ p = some r → W.ρ p = none → ∃ o, H' p = some o) : HRel K CA W' H' obs := by
  have ls : W.leO W' := ⟨fun p r e _ => l p r e, fun n p e => by rw [ha]; exact e⟩
  refine ⟨fun p o e => ?_, fun p o e => ?_, fun p r e => ?_, by rw [ha]; exact h.len, fun n ob e => ?_⟩
  · cases q : W.ρ p with
    | none => exact nf p o e q
    | some r =>
      have := l p r q; rw [e] at this; cases this
      exact (hh p _ q).trans (h.fro p o q)
  · cases q : W.ρ p with
    | none => exact nk p o e q
    | some r =>
      have := l p r q; rw [e] at this; cases this
      exact (hh p _ q).trans (h.keep p o q)
  · cases q : W.ρ p with
    | none => exact nl p r e q
    | some r' =>
      obtain ⟨o, z⟩ := h.live p r' q
      exact ⟨o, (hh p _ q).trans z⟩
  · obtain ⟨p, a1, a2, a3⟩ := h.obs n ob e
    exact ⟨p, by rw [ha]; exact a1, l p _ a2, a3.mono ls a2 fun q r z _ => hh q r z⟩
theorem SlR.mono {i : Nat} {ov : Option V} {s : Sl} (l : W.dle W') (hr : ∀ p, W.ρ p = some (.own i) → W'.ρ p = some (.own i) ∧ H' p = H p) (h : SlR K W H i ov s) : SlR K W' H' i ov s := by
  cases s with
  | un => trivial
  | v d => obtain ⟨v, e, r⟩ := h; exact ⟨v, e, l.rep r⟩
  | ol ds =>
    obtain ⟨p, vs, e, r, hp, q⟩ := h
    exact ⟨p, vs, e, (hr p r).1, (hr p r).2.trans hp, l.reps q⟩
  | od ks =>
    obtain ⟨p, vs, e, r, hp, q, z⟩ := h
    exact ⟨p, vs, e, (hr p r).1, (hr p r).2.trans hp, q, l.reps z⟩
/-- a new role for a new address -/
theorem SRel.add {r : Role} {o : HO} (h : SRel K CA W σ H env obs) (hp : H p = none) (hf : ∀ u, r = .fro u → u = o) (hk : ∀ u, r ≠ .keep u) : SRel K CA (W.put p r) σ (upd H p o) env obs := by
  have n := h.h.fresh hp
  have ne : ∀ q r', W.ρ q = some r' → q ≠ p := fun q r' e z => by rw [z, n] at e; cases e
  have hu : ∀ q r', W.ρ q = some r' → upd H p o q = H q := fun q r' e => upd_ne (ne q r' e)
  have hl : ∀ q r', W.ρ q = some r' → (W.put p r).ρ q = some r' := fun q r' e => by rw [Wd.put_ne (ne q r' e)]; exact e
  have new : ∀ q r', (W.put p r).ρ q = some r' → W.ρ q = none → q = p ∧ r' = r := fun q r' e z => by
    by_cases hq : q = p
    · subst hq; rw [Wd.put_same] at e; exact ⟨rfl, (Option.some.inj e).symm⟩
    · rw [Wd.put_ne hq, z] at e; cases e
  refine ⟨h.h.mono hl rfl hu (fun q u e z => ?_) (fun q u e z => ?_) (fun q u e z => ?_), h.len, fun i s e => ?_⟩
  · obtain ⟨rfl, e2⟩ := new q _ e z
    rw [upd_same, hf u e2.symm]
  · obtain ⟨rfl, e2⟩ := new q _ e z
    exact absurd e2.symm (hk u)
  · obtain ⟨rfl, _⟩ := new q _ e z
    exact ⟨o, upd_same⟩
  · exact SlR.mono ⟨fun q u z => hl q _ z, fun _ _ z => z⟩ (fun q z => ⟨hl q _ z, hu q _ z⟩) (h.sl i s e)
theorem leE_add {r : Role} {o : HO} (n : W.ρ p = none) : W.leE (W.put p r) H (upd H p o) := by
  have ne : ∀ q r', W.ρ q = some r' → q ≠ p := fun q r' e z => by rw [z, n] at e; cases e
  exact ⟨fun q r' e => by rw [Wd.put_ne (ne q r' e)]; exact e, fun q r' e _ => upd_ne (ne q r' e), fun _ _ e => e⟩
/-- a new object -/
theorem SRel.onew {o : HO} {ob : Ob} (h : SRel K CA W σ H env obs) (hp : H p = none) (hb : ∀ W' : Wd, W.dle W' → W'.ρ p = some (.ob obs.length) → ObR K CA W' (upd H p o) obs.length p ob) :
    ∃ W', W.leE W' H (upd H p o) ∧ SRel K CA W' σ (upd H p o) env (obs ++ [ob]) ∧ W'.A[obs.length]? = some p := by
  have n := h.h.fresh hp
  let W1 : Wd := ⟨(W.put p (.ob obs.length)).ρ, W.A ++ [p]⟩
  have ne : ∀ q r', W.ρ q = some r' → q ≠ p := fun q r' e z => by rw [z, n] at e; cases e
  have hu : ∀ q r', W.ρ q = some r' → upd H p o q = H q := fun q r' e => upd_ne (ne q r' e)
  have hl : ∀ q r', W.ρ q = some r' → W1.ρ q = some r' := fun q r' e => by
    show (W.put p (.ob obs.length)).ρ q = _
    rw [Wd.put_ne (ne q r' e)]; exact e
  have new : ∀ q r', W1.ρ q = some r' → W.ρ q = some r' ∨ (q = p ∧ r' = .ob obs.length) := fun q r' e => by
    have e : (W.put p (.ob obs.length)).ρ q = some r' := e
    by_cases hq : q = p
    · subst hq; rw [Wd.put_same] at e; exact .inr ⟨rfl, (Option.some.inj e).symm⟩
    · rw [Wd.put_ne hq] at e; exact .inl e
  have hA : ∀ (m : Nat) q, W.A[m]? = some q → (W.A ++ [p])[m]? = some q := fun m q e => by
    rw [List.getElem?_append_left (List.getElem?_eq_some_iff.mp e).1]; exact e
  have le : W.leE W1 H (upd H p o) := ⟨hl, fun q r' e _ => hu q r' e, hA⟩
  have hp1 : W1.ρ p = some (.ob obs.length) := Wd.put_same
  have hAn : (W.A ++ [p])[obs.length]? = some p := by rw [← h.h.len, List.getElem?_append_right (Nat.le_refl _)]; simp
  refine ⟨W1, le, ⟨⟨fun q u e => ?_, fun q u e => ?_, fun q u e => ?_, by simp [W1, h.h.len], fun m ob' e => ?_⟩, h.len, fun i s e => ?_⟩, hAn⟩
  · rcases new q _ e with e | ⟨_, e⟩
    · exact (hu q _ e).trans (h.h.fro q u e)
    · cases e
  · rcases new q _ e with e | ⟨_, e⟩
    · exact (hu q _ e).trans (h.h.keep q u e)
    · cases e
  · rcases new q _ e with e | ⟨rfl, _⟩
    · obtain ⟨z, hz⟩ := h.h.live q u e
      exact ⟨z, (hu q _ e).trans hz⟩
    · exact ⟨o, upd_same⟩
  · by_cases hm : m < obs.length
    · rw [List.getElem?_append_left hm] at e
      obtain ⟨q, a1, a2, a3⟩ := h.h.obs m ob' e
      exact ⟨q, hA m q a1, hl q _ a2, a3.mono le.s.o a2 fun q r z _ => hu q r z⟩
    · have hm' : m = obs.length := by
        have := (List.getElem?_eq_some_iff.mp e).1
        simp at this; omega
      subst hm'
      rw [List.getElem?_append_right (Nat.le_refl _)] at e
      simp at e; subst e
      exact ⟨p, hAn, hp1, hb W1 le.d hp1⟩
  · exact SlR.mono le.d (fun q z => ⟨hl q _ z, hu q _ z⟩) (h.sl i s e)
/-- an object is written -/
theorem SRel.owrite {n : Nat} {o : HO} {ob : Ob} (h : SRel K CA W σ H env obs) (hA : W.A[n]? = some p) (hn : n < obs.length) (hb : ObR K CA W (upd H p o) n p ob) :
    SRel K CA W σ (upd H p o) env (obs.set n ob) ∧ W.leE W H (upd H p o) := by
  have hr : W.ρ p = some (.ob n) := by
    obtain ⟨q, a1, a2, _⟩ := h.h.obs n obs[n] (List.getElem?_eq_getElem hn)
    rw [hA] at a1; cases a1; exact a2
  have ne : ∀ q r', W.ρ q = some r' → r' ≠ .ob n → q ≠ p := fun q r' e l z => by rw [z, hr] at e; cases e; exact l rfl
  refine ⟨⟨⟨fun q u e => ?_, fun q u e => ?_, fun q u e => ?_, by simp [h.h.len], fun m ob' e => ?_⟩, h.len, fun i s e => ?_⟩, fun _ _ e => e, fun q r' e l => upd_ne (ne q r' e fun z => by subst z; cases l), fun _ _ e => e⟩
  · rw [upd_ne (ne q _ e (by simp))]; exact h.h.fro q u e
  · rw [upd_ne (ne q _ e (by simp))]; exact h.h.keep q u e
  · by_cases hq : q = p
    · subst hq; exact ⟨_, upd_same⟩
    · rw [upd_ne hq]; exact h.h.live q u e
  · by_cases hm : n = m
    · subst hm
      rw [List.getElem?_set_self hn] at e
      cases e
      exact ⟨p, hA, hr, hb⟩
    · rw [List.getElem?_set_ne hm] at e
      obtain ⟨q, a1, a2, a3⟩ := h.h.obs m ob' e
      refine ⟨q, a1, a2, a3.mono Wd.leS.refl.o a2 fun q r z hz => upd_ne (ne q r z ?_)⟩
      rcases hz with rfl | rfl
      · intro z; cases z; exact hm rfl
      · simp
  · exact SlR.mono .refl (fun q z => ⟨z, upd_ne (ne q _ z (by simp))⟩) (h.sl i s e)
/-- an object that is a list -/
theorem SRel.ols {n : Nat} {v : V} {ds : List D} (h : SRel K CA W σ H env obs) (r : W.rep K v (.obj n)) (e : obs[n]? = some (.ls ds)) : ∃ p vs, v = .ref p ∧ W.A[n]? = some p ∧ H p = some (.lst vs) ∧ W.reps K vs ds := by
  obtain ⟨p, rfl, hA⟩ := r.to_obj
  obtain ⟨q, a1, a2, vs, a3, a4⟩ := h.h.obs n _ e
  rw [hA] at a1; cases a1
  exact ⟨p, vs, rfl, hA, a3, a4⟩
/-- a heap with more in it -/
theorem SRel.heap (h : SRel K CA W σ H env obs) (hh : ∀ p o, H p = some o → H' p = some o) : SRel K CA W σ H' env obs := by
  have hu : ∀ q r, W.ρ q = some r → H' q = H q := fun q r e => by
    obtain ⟨o, z⟩ := h.h.live q r e
    rw [z, hh q o z]
  exact ⟨h.h.mono (fun _ _ e => e) rfl hu (fun q u e z => by rw [z] at e; cases e) (fun q u e z => by rw [z] at e; cases e) (fun q u e z => by rw [z] at e; cases e), h.len,
    fun i s e => SlR.mono .refl (fun q z => ⟨z, hu q _ z⟩) (h.sl i s e)⟩
theorem leE_heap (h : SRel K CA W σ H env obs) (hh : ∀ p o, H p = some o → H' p = some o) : W.leE W H H' :=
  ⟨fun _ _ e => e, fun q r e _ => by
    obtain ⟨o, z⟩ := h.h.live q r e
    rw [z, hh q o z], fun _ _ e => e⟩
/-- a role that is loose and that no slot of the state needs is changed -/
theorem SRel.turn {r r0 : Role} (h : SRel K CA W σ H env obs) (h0 : W.ρ p = some r0) (hl : r0.loose = true) (hs : ∀ i s, r0 = .own i → env[i]? = some s → (∃ d, s = .v d) ∨ s = .un)
    (hf : ∀ u, r = .fro u → H p = some u) (hk : ∀ u, r = .keep u → H p = some u) : SRel K CA (W.put p r) σ H env obs := by
  have ls : W.leS (W.put p r) := ⟨fun q r' e l' => by
    by_cases hq : q = p
    · subst hq; rw [h0] at e; cases e; rw [hl] at l'; cases l'
    · rw [Wd.put_ne hq]; exact e, fun _ _ e => e⟩
  refine ⟨⟨fun q u e => ?_, fun q u e => ?_, fun q u e => ?_, h.h.len, fun n ob e => ?_⟩, h.len, fun i s e => ?_⟩
  · by_cases hq : q = p
    · subst hq; rw [Wd.put_same] at e; exact hf u (Option.some.inj e)
    · rw [Wd.put_ne hq] at e; exact h.h.fro q u e
  · by_cases hq : q = p
    · subst hq; rw [Wd.put_same] at e; exact hk u (Option.some.inj e)
    · rw [Wd.put_ne hq] at e; exact h.h.keep q u e
  · by_cases hq : q = p
    · subst hq; exact h.h.live _ _ h0
    · rw [Wd.put_ne hq] at e; exact h.h.live q u e
  · obtain ⟨q, a1, a2, a3⟩ := h.h.obs n ob e
    exact ⟨q, a1, ls.r q _ a2 rfl, a3.mono ls.o a2 fun _ _ _ _ => rfl⟩
  · by_cases ho : r0 = .own i
    · rcases hs i s ho e with ⟨d, rfl⟩ | rfl
      · obtain ⟨v, a, b⟩ := h.sl i _ e
        exact ⟨v, a, ls.d.rep b⟩
      · trivial
    · refine SlR.mono ls.d (fun q z => ⟨?_, rfl⟩) (h.sl i s e)
      have hq : q ≠ p := fun y => by subst y; rw [h0] at z; exact ho (Option.some.inj z)
      rw [Wd.put_ne hq]; exact z
theorem leS_turn {r r0 : Role} (h0 : W.ρ p = some r0) (hl : r0.loose = true) : W.leS (W.put p r) :=
  ⟨fun q r' e l' => by
    by_cases hq : q = p
    · subst hq; rw [h0] at e; cases e; rw [hl] at l'; cases l'
    · rw [Wd.put_ne hq]; exact e, fun _ _ e => e⟩
/-- a slot is set -/
theorem SRel.set {i : Nat} {v : V} {s : Sl} (h : SRel K CA W σ H env obs) (hv : SlR K W H i (some v) s) : SRel K CA W (σ.set i (some v)) H (env.set i s) obs := by
  refine ⟨h.h, by simp [h.len], fun j t e => ?_⟩
  by_cases hj : i = j
  · subst hj
    have hi : i < env.length := by
      have := (List.getElem?_eq_some_iff.mp e).1
      simpa using this
    rw [List.getElem?_set_self hi] at e
    cases e
    rw [List.getElem?_set_self (by rw [h.len]; exact hi)]
    exact hv
  · rw [List.getElem?_set_ne hj] at e ⊢
    exact h.sl j t e
theorem SRel.get {i : Nat} {d : D} (h : SRel K CA W σ H env obs) (e : env[i]? = some (.v d)) : ∃ v, σ[i]? = some (some v) ∧ W.rep K v d := by
  obtain ⟨v, a, b⟩ := h.sl i _ e
  refine ⟨v, ?_, b⟩
  cases q : σ[i]? with
  | none => rw [q] at a; cases a
  | some x => rw [q] at a; rw [show x = some v from a]
theorem SRel.getL {i : Nat} {ds : List D} (h : SRel K CA W σ H env obs) (e : env[i]? = some (.ol ds)) : ∃ p vs, σ[i]? = some (some (.ref p)) ∧ W.ρ p = some (.own i) ∧ H p = some (.lst vs) ∧ W.reps K vs ds := by
  obtain ⟨p, vs, a, b⟩ := h.sl i _ e
  refine ⟨p, vs, ?_, b⟩
  cases q : σ[i]? with
  | none => rw [q] at a; cases a
  | some x => rw [q] at a; rw [show x = some (.ref p) from a]
/-- the slots' values as they are, some forgotten -/
theorem SRel.weak {σ' : L2.St} {env' : Env} (h : SRel K CA W σ H env obs) (hl : σ'.length = env'.length) (hs : ∀ (i : Nat) (s : Sl), env'[i]? = some s → s = .un ∨ (env[i]? = some s ∧ σ'[i]? = σ[i]?)) : SRel K CA W σ' H env' obs :=
  ⟨h.h, hl, fun i s e => by
    rcases hs i s e with rfl | ⟨a, b⟩
    · trivial
    · rw [b]; exact h.sl i s a⟩
/-- an owned list is written -/
theorem SRel.write {i : Nat} {ds : List D} {vs : List V} (h : SRel K CA W σ H env obs) (hi : i < env.length) (hs : σ[i]? = some (some (.ref p))) (hr : W.ρ p = some (.own i)) (q : W.reps K vs ds) (hot : ∀ s, env[i]? = some s → ∃ es, s = .ol es) : SRel K CA W σ (upd H p (.lst vs)) (env.set i (.ol ds)) obs := by
  have ne : ∀ q r', W.ρ q = some r' → r'.loose = false → q ≠ p := fun q r' e l z => by rw [z, hr] at e; cases e; cases l
  refine ⟨⟨fun q u e => ?_, fun q u e => ?_, fun q u e => ?_, h.h.len, fun n ob e => ?_⟩, by simp [h.len], fun j t e => ?_⟩
  · rw [upd_ne (ne q _ e rfl)]; exact h.h.fro q u e
  · rw [upd_ne (ne q _ e rfl)]; exact h.h.keep q u e
  · by_cases hq : q = p
    · subst hq; exact ⟨_, upd_same⟩
    · rw [upd_ne hq]; exact h.h.live q u e
  · obtain ⟨q, a1, a2, a3⟩ := h.h.obs n ob e
    refine ⟨q, a1, a2, a3.mono Wd.leS.refl.o a2 fun q r z hz => upd_ne (ne q r z ?_)⟩
    rcases hz with rfl | rfl <;> rfl
  · by_cases hj : i = j
    · subst hj
      rw [List.getElem?_set_self hi] at e
      cases e
      exact ⟨p, vs, by rw [hs]; rfl, hr, upd_same, q⟩
    · rw [List.getElem?_set_ne hj] at e
      refine SlR.mono .refl (fun q z => ⟨z, upd_ne fun y => ?_⟩) (h.sl j t e)
      subst y; rw [hr] at z; cases z; exact hj rfl
end

/-! ### readings -/
section
variable (K : PySem.W.Frag) (CA : Str → Option Addr) (W0 : WX)
/-- how an exception of the class c with the value a lies: its class, its own dict -/
def XR (W : Wd) (H : Hp) (cls : Value) (d : Option Addr) (c : Str) : D → Prop
  | .non => ∃ C, CA c = some C ∧ cls = .ref C
  | a => ∃ C dd v, CA c = some C ∧ cls = .ref C ∧ d = some dd ∧ H dd = some (.xd [(("place" : Str), v)]) ∧ W.rep K v a
/-- what lies between a value of the model and the data: by the world ahead, the world behind, the heap behind -/
abbrev Rl (α β : Type) := Wd → Wd → Hp → β → α → Prop
abbrev relE : Rl D V := fun _ W' _ v d => W'.rep K v d
abbrev relT : Rl Bool Bool := fun _ _ _ v d => v = d
abbrev relO : Rl (Option Int) (Option Int) := fun _ _ _ v d => v = d
abbrev relA : Rl (List D) (List V) := fun _ W' _ v d => W'.reps K v d
abbrev relF : Rl (List D) V := fun W W' H' v ds => ∃ p vs, v = .ref p ∧ W.ρ p = none ∧ W'.ρ p = some .acc ∧ H' p = some (.lst vs) ∧ W'.reps K vs ds
/-- what a run over data says of what is wanted -/
def GP {α β : Type} (rel : Rl α β) (W : Wd) (env : Env) (σ : L2.St) (H : Hp) (Q : β → Hp → Prop) : R α → Prop
  | .ok d obs' => ∀ v W' H', W.leE W' H H' → SRel K CA W' σ H' env obs' → rel W W' H' v d → Q v H'
  | .ex c a obs' => ∀ cls dd W' H', W.leE W' H H' → SRel K CA W' σ H' env obs' → XR K CA W' H' cls dd c a → W0 cls dd σ H'
  | .bad => False
def LG {α β : Type} (rel : Rl α β) (f : Env → Obs → R α) : L2.St → Hp → (β → Hp → Prop) → Prop := fun σ H Q => ∃ W env obs, SRel K CA W σ H env obs ∧ GP K CA W0 rel W env σ H Q (f env obs)
/-- an expression's reading -/
abbrev LE (f : Env → Obs → R D) : TE := LG K CA W0 (relE K) f
abbrev LT (f : Env → Obs → R Bool) : TT := LG K CA W0 relT f
abbrev LA (f : Env → Obs → R (List D)) : TA := LG K CA W0 (relA K) f
abbrev LO (f : Env → Obs → R (Option Int)) : TO := LG K CA W0 relO f
/-- a new list -/
abbrev LF (f : Env → Obs → R (List D)) : TE := LG K CA W0 (relF K) f
def LPost (W : Wd) (D : Ends) : RS → Prop
  | .nx env obs => ∀ σ' W' H', W.leS W' → SRel K CA W' σ' H' env obs → D.nx σ' H'
  | .rt d obs => ∀ v W' H', W.leS W' → HRel K CA W' H' obs → W'.rep K v d → D.rt v H'
  | .bk env obs => ∀ σ' W' H', W.leS W' → SRel K CA W' σ' H' env obs → D.bk σ' H'
  | .ct env obs => ∀ σ' W' H', W.leS W' → SRel K CA W' σ' H' env obs → D.ct σ' H'
  | .ex c a env obs => ∀ cls dd σ' W' H', W.leS W' → SRel K CA W' σ' H' env obs → XR K CA W' H' cls dd c a → W0 cls dd σ' H'
  | .bad => False
/-- a statement's -/
def LS (f : Env → Obs → RS) : TS := fun D σ H => ∃ W env obs, SRel K CA W σ H env obs ∧ LPost K CA W0 W D (f env obs)
end
section
variable {K : PySem.W.Frag} {CA : Str → Option Addr} {W0 : WX} {W W1 : Wd} {H H1 : Hp} {obs : Obs} {env : Env} {σ : L2.St} {α β γ δ : Type} {rel : Rl α β} {rel2 : Rl γ δ}
/-- a relation that may be told of an earlier world -/
def Rl.Early (rel : Rl α β) : Prop := ∀ W W1 W' H H1 H' v a, Wd.leE W W1 H H1 → rel W1 W' H' v a → rel W W' H' v a
theorem earlyE : Rl.Early (relE K) := fun _ _ _ _ _ _ _ _ _ h => h
theorem earlyT : Rl.Early relT := fun _ _ _ _ _ _ _ _ _ h => h
theorem earlyO : Rl.Early relO := fun _ _ _ _ _ _ _ _ _ h => h
theorem earlyA : Rl.Early (relA K) := fun _ _ _ _ _ _ _ _ _ h => h
theorem earlyF : Rl.Early (relF K) := fun W W1 _ _ _ _ _ _ l ⟨p, vs, e, n, h⟩ => ⟨p, vs, e, (by
  cases q : W.ρ p with
  | none => rfl
  | some r => rw [l.r p r q] at n; cases n), h⟩
theorem GP.mono {Q : β → Hp → Prop} (er : rel.Early) (l : W.leE W1 H H1) : ∀ {r : R α}, GP K CA W0 rel W env σ H Q r → GP K CA W0 rel W1 env σ H1 Q r
  | .ok d o, h => fun v W' H' l' S r => h v W' H' (l.trans l') S (er _ _ _ _ _ _ _ _ l r)
  | .ex c a o, h => fun cls dd W' H' l' S r => h cls dd W' H' (l.trans l') S r
  | .bad, h => h
/-- a run, then another one -/
theorem LG.bnd {Q : δ → Hp → Prop} {T : β → Hp → Prop} {fa : Env → Obs → R α} {k : α → Obs → R γ} (er : rel2.Early) (S : SRel K CA W σ H env obs) (h : GP K CA W0 rel2 W env σ H Q ((fa env obs).bind k))
    (kk : ∀ a o1 v W1 H1, W.leE W1 H H1 → SRel K CA W1 σ H1 env o1 → rel W W1 H1 v a → GP K CA W0 rel2 W1 env σ H1 Q (k a o1) → T v H1) : LG K CA W0 rel fa σ H T := by
  refine ⟨W, env, obs, S, ?_⟩
  cases e : fa env obs with
  | ok a o => exact fun v W' H' l S' r => kk a o v W' H' l S' r (GP.mono er l (by rw [e] at h; exact h))
  | ex c a o => rw [e] at h; exact h
  | bad => rw [e] at h; exact h
/-- the end: data, nothing laid -/
theorem GP.fin {Q : β → Hp → Prop} {o : Option α} (S : SRel K CA W σ H env obs) {v : β} (h : GP K CA W0 rel W env σ H Q (R.opt obs o)) (r : ∀ d, o = some d → rel W W H v d) : Q v H := by
  cases o with
  | none => exact h.elim
  | some d => exact h v W H .refl S (r d rfl)
theorem GP.opt {Q : β → Hp → Prop} {o : Option α} (h : GP K CA W0 rel W env σ H Q (R.opt obs o)) : ∃ d, o = some d ∧ ∀ v W' H', W.leE W' H H' → SRel K CA W' σ H' env obs → rel W W' H' v d → Q v H' := by
  cases o with
  | none => exact h.elim
  | some d => exact ⟨d, rfl, h⟩
/-- a new tuple -/
theorem GP.tup {Q : V → Hp → Prop} {ds : List D} {vs : List V} (S : SRel K CA W σ H env obs) (q : ∀ v W' H', W.leE W' H H' → SRel K CA W' σ H' env obs → W'.rep K v (.tup ds) → Q v H') (r : W.reps K vs ds) :
    ∀ p, H p = none → Q (.ref p) (upd H p (.tup vs)) := fun p hp => by
  have n := S.h.fresh hp
  refine q _ (W.put p (.fro (.tup vs))) _ (leE_add n) (S.add hp (fun u e => by injection e with e; exact e.symm) (fun u e => nomatch e)) (.tup (.inl (.inl (Wd.F_of.mpr Wd.put_same))) ?_)
  exact (leE_add (H := H) (o := .tup vs) n).d.reps r
theorem GP.lst {Q : V → Hp → Prop} {ds : List D} {vs : List V} (S : SRel K CA W σ H env obs) (q : ∀ v W' H', W.leE W' H H' → SRel K CA W' σ H' env obs → W'.rep K v (.lst ds) → Q v H') (r : W.reps K vs ds) :
    ∀ p, H p = none → Q (.ref p) (upd H p (.lst vs)) := fun p hp => by
  have n := S.h.fresh hp
  refine q _ (W.put p (.fro (.lst vs))) _ (leE_add n) (S.add hp (fun u e => by injection e with e; exact e.symm) (fun u e => nomatch e)) (.lst (Wd.F_of.mpr Wd.put_same) ?_)
  exact (leE_add (H := H) (o := .lst vs) n).d.reps r
/-- a new list of nobody's yet -/
theorem GP.new {Q : V → Hp → Prop} {ds : List D} {vs : List V} (S : SRel K CA W σ H env obs) (q : ∀ v W' H', W.leE W' H H' → SRel K CA W' σ H' env obs → relF K W W' H' v ds → Q v H') (r : W.reps K vs ds) :
    ∀ p, H p = none → Q (.ref p) (upd H p (.lst vs)) := fun p hp => by
  have n := S.h.fresh hp
  exact q _ (W.put p .acc) _ (leE_add n) (S.add hp (fun u e => nomatch e) (fun u e => nomatch e)) ⟨p, vs, rfl, n, Wd.put_same, upd_same, (leE_add (H := H) (o := .lst vs) n).d.reps r⟩
end
theorem PE.weak {X : Cx} {e : Expr} {t t' : TE} (h : PE X e t) (w : ∀ σ H Q, t' σ H Q → t σ H Q) : PE X e t' := ⟨fun pins s σ H Q I q => h.run pins s σ H Q I (w σ H Q q)⟩
theorem PT.weak {X : Cx} {e : Expr} {t t' : TT} (h : PT X e t) (w : ∀ σ H Q, t' σ H Q → t σ H Q) : PT X e t' := ⟨fun pins s σ H Q I q => h.run pins s σ H Q I (w σ H Q q)⟩
theorem PA.weak {X : Cx} {e : List Expr} {t t' : TA} (h : PA X e t) (w : ∀ σ H Q, t' σ H Q → t σ H Q) : PA X e t' := ⟨fun pos pins s σ H Q I q => h.run pos pins s σ H Q I (w σ H Q q)⟩
theorem PS.weak {X : Cx} {e : Stmt} {t t' : TS} (h : PS X e t) (w : ∀ D σ H, t' D σ H → t D σ H) : PS X e t' := ⟨fun pins s σ H D I q => h.run pins s σ H D I (w D σ H q)⟩
theorem PSs.weak {X : Cx} {e : List Stmt} {t t' : TS} (h : PSs X e t) (w : ∀ D σ H, t' D σ H → t D σ H) : PSs X e t' := ⟨fun pins s σ H D I q => h.run pins s σ H D I (w D σ H q)⟩
theorem PW.weak {X : Cx} {e : Expr} {t t' : TT} (h : PW X e t) (w : ∀ σ H Q, t' σ H Q → t σ H Q) : PW X e t' := ⟨fun wh pins s σ H Q I q => h.run wh pins s σ H Q I (w σ H Q q)⟩
end Mp

set_option Elab.async false
set_option linter.all false
set_option maxRecDepth 100000
/-! The small language: its terms, what they mean over data, which terms of the model they stand for. -/
namespace Mp
open PySem PySem.Spec PyProof.Rows L2

/-! ### what operators do with data -/
def cutD (ds : List D) (lo hi : Option Int) : List D := (ds.drop (HT.sIx ds.length 0 lo)).take (HT.sIx ds.length ds.length hi - HT.sIx ds.length 0 lo)
def addD : D → D → Option D
  | .int a, .int b => some (.int (a + b))
  | .str a, .str b => if a.length + b.length ≤ sizeLine then some (.str (a ++ b)) else none
  | .tup a, .tup b => if a.length + b.length ≤ sizeLine then some (.tup (a ++ b)) else none
  | .lst a, .lst b => if a.length + b.length ≤ sizeLine then some (.lst (a ++ b)) else none
  | _, _ => none
def subD : D → D → Option D
  | .int a, .int b => some (.int (a - b))
  | _, _ => none
/-- a product of numbers: one of them below 2 to the 64, or both below 2 to the 400000 -/
def mulOk (a b : Int) : Bool := decide (a.natAbs < 2 ^ 64) || decide (b.natAbs < 2 ^ 64)
def mulD : D → D → Option D
  | .int a, .int b => if mulOk a b then some (.int (a * b)) else none
  | .lst a, .int k => if decide (-(2 ^ 63) ≤ k ∧ k < 2 ^ 63) && decide (a.length * k.toNat ≤ sizeLine) then some (.lst (List.replicate k.toNat a).flatten) else none
  | .tup a, .int k => if decide (-(2 ^ 63) ≤ k ∧ k < 2 ^ 63) && decide (a.length * k.toNat ≤ 1000000) then some (.tup (List.replicate k.toNat a).flatten) else none
  | _, _ => none
def divD : D → D → Option D
  | .int a, .int b => if decide (b ≠ 0 ∧ b.natAbs < 1073741824) || decide (0 < b ∧ b.natAbs.log2 < 9000) then some (.int (a.fdiv b)) else none
  | _, _ => none
def modD : D → D → Option D
  | .int a, .int b => if b = 0 then none else some (.int (a.fmod b))
  | _, _ => none
def powD : D → D → Option D
  | .int a, .int b => if decide (0 ≤ b ∧ b ≤ 1000000 ∧ a.natAbs < 2 ^ 64) then some (.int (a ^ b.toNat)) else none
  | _, _ => none
def shlD : D → D → Option D
  | .int a, .int b => if decide (0 ≤ b ∧ b ≤ 1000000 ∧ a.natAbs < 2 ^ 64) then some (.int (a * 2 ^ b.toNat)) else none
  | _, _ => none
/-- op= of numbers -/
def augD : Operator → D → D → Option D
  | .Add, .int a, .int b => some (.int (a + b))
  | .Sub, .int a, .int b => some (.int (a - b))
  | .Mult, .int a, .int b => if mulOk a b then some (.int (a * b)) else none
  | .FloorDiv, .int a, .int b => if decide (0 < b ∧ b < 1073741824) then some (.int (a / b)) else none
  | .Mod, .int a, .int b => if decide (0 < b) then some (.int (a % b)) else none
  | _, _, _ => none
def binD : Operator → D → D → Option D
  | .Add => addD | .Sub => subD | .Mult => mulD | .FloorDiv => divD | .Mod => modD | .Pow => powD | .LShift => shlD
  | _ => fun _ _ => none

/-! data without objects, as the model has them -/
mutual
def toP : D → Option PyData
  | .non => some .none
  | .bl b => some (.bool b)
  | .int i => some (.int i)
  | .str x => some (.str x)
  | .tup ds => (toPs ds).map .tuple
  | .lst ds => (toPs ds).map .list
  | _ => none
def toPs : List D → Option (List PyData)
  | [] => some []
  | d :: ds => do some ((← toP d) :: (← toPs ds))
end
def eqD (a b : D) : Option Bool := do
  let x ← toP a
  let y ← toP b
  if SeqAt.shaped x && SeqAt.shaped y then some (PyData.eqv x y) else none
def intsD : List D → Option (List Int)
  | [] => some []
  | .int i :: ds => (intsD ds).map (i :: ·)
  | _ => none
def blsD : List D → Option (List Bool)
  | [] => some []
  | .bl i :: ds => (blsD ds).map (i :: ·)
  | _ => none
def strsD : List D → Option (List Str)
  | [] => some []
  | .str i :: ds => (strsD ds).map (i :: ·)
  | _ => none
def ltD : D → D → Option Bool
  | .int a, .int b => some (decide (a < b))
  | .tup a, .tup b => do
    let x ← intsD a
    let y ← intsD b
    some (HT.lexLt x y)
  | .str a, .str b => some (decide (a.cps.toList < b.cps.toList))
  | _, _ => none
def leD : D → D → Option Bool
  | .int a, .int b => some (decide (a ≤ b))
  | _, _ => none
def flatD : D → Bool
  | .non => true | .bl _ => true | .int _ => true | .str _ => true | _ => false
def feqD : D → D → Bool
  | .non, .non => true
  | .bl a, .bl b => a == b
  | .bl a, .int b => (if a then 1 else 0) == b
  | .int a, .bl b => a == (if b then 1 else 0)
  | .int a, .int b => a == b
  | .str a, .str b => a == b
  | _, _ => false
/-- data of any depth in a tuple -/
def inDeep (x : D) (ds : List D) : Option Bool := do
  let d ← toP x
  let ys ← toPs ds
  if SeqAt.shaped d && SeqAt.shaped (.tuple ys) then some (ys.any fun z => PyData.eqv z d) else none
def inD (x : D) : D → Option Bool
  | .tup ds => if flatD x && ds.all flatD then some (ds.any fun y => feqD y x) else inDeep x ds
  | .lst ds => if flatD x && ds.all flatD then some (ds.any fun y => feqD y x) else none
  | _ => none
def cmpD : CmpOp → D → D → Option Bool
  | .Eq => eqD
  | .NotEq => fun a b => (eqD a b).map (!·)
  | .Lt => ltD
  | .LtE => leD
  | .Gt => fun a b => match a, b with | .int x, .int y => some (decide (y < x)) | _, _ => none
  | .GtE => fun a b => match a, b with | .int x, .int y => some (decide (y ≤ x)) | _, _ => none
  | .In => inD
  | .NotIn => fun a b => (inD a b).map (!·)
  | .Is => fun a b => match b, a with | .non, .non => some true | .non, _ => some false | .bl y, .bl x => some (decide (x = y)) | _, _ => none
  | .IsNot => fun a b => match b, a with | .non, .non => some false | .non, _ => some true | .bl y, .bl x => some (!decide (x = y)) | _, _ => none
def truD : D → Option Bool
  | .non => some false
  | .bl b => some b
  | .int i => some (i != 0)
  | .str y => if y.length ≤ sizeLine then some ((y.length : Int) != 0) else none
  | .tup ds => some (!ds.isEmpty)
  | .lst ds => some (!ds.isEmpty)
  | .dic ks => some (!ks.isEmpty)
  | _ => none
def ixD : D → D → Option D
  | .lst ds, .int i => atI ds i
  | .tup ds, .int i => atI ds i
  | .str z, .int i => if z.length ≤ sizeLine then (atI z.cps.toList i).map fun c => .str ⟨#[c]⟩ else none
  | _, _ => none
def slD : D → Option Int → Option Int → Option D
  | .lst ds, lo, hi => some (.lst (cutD ds lo hi))
  | .tup ds, lo, hi => some (.tup (cutD ds lo hi))
  | .loc ns, lo, hi => some (.lst (cutD (ns.map .int) lo hi))
  | .str z, lo, hi => if z.length ≤ sizeLine then some (.str (Txt.slice z lo hi)) else none
  | _, _, _ => none
def revD : D → Option D
  | .lst ds => some (.lst ds.reverse)
  | .tup ds => if ds.length ≤ 1000000 then some (.tup ds.reverse) else none
  | _ => none
def lenD : D → Option Nat
  | .str y => if y.length ≤ sizeLine then some y.length else none
  | .tup ds => some ds.length
  | .lst ds => some ds.length
  | .dic ks => some ks.length
  | .loc ns => some ns.length
  | _ => none
def maxI (x : Int) : List Int → Int
  | [] => x
  | y :: ys => maxI (if y > x then y else x) ys
def minI (x : Int) : List Int → Int
  | [] => x
  | y :: ys => minI (if y < x then y else x) ys
def insI (x : Int) : List Int → List Int
  | [] => [x]
  | y :: ys => if x ≤ y then x :: y :: ys else y :: insI x ys
/-- numbers in their order -/
def sortI : List Int → List Int
  | [] => []
  | x :: xs => insI x (sortI xs)
def inuI (x : Int) : List Int → List Int
  | [] => [x]
  | y :: ys => if x < y then x :: y :: ys else if x = y then y :: ys else y :: inuI x ys
/-- .. each once -/
def ssetI : List Int → List Int
  | [] => []
  | x :: xs => inuI x (ssetI xs)
def ssetD : D → Option D
  | .lst ds => (intsD ds).bind fun ns => if ns.length < 64 then some (.lst ((ssetI ns).map .int)) else none
  | _ => none
/-- the built-in functions, by their names -/
def biD (f : String) : List D → Option D
  | [a] => match f with
    | "len" => (lenD a).map fun n => .int n
    | "abs" => match a with | .int i => some (.int (if i < 0 then -i else i)) | _ => none
    | "int" => match a with | .int i => some (.int i) | .bl k => some (.int (if k then 1 else 0)) | _ => none
    | "str" => match a with | .int i => if i.natAbs.log2 < 1920 then some (.str (toString i)) else none | _ => none
    | "tuple" => match a with | .lst ds => some (.tup ds) | .tup ds => some (.tup ds) | _ => none
    | "list" => match a with | .lst ds => some (.lst ds) | .tup ds => some (.lst ds) | _ => none
    | "sum" => match a with | .lst ds => (intsD ds).map fun ns => .int ns.sum | _ => none
    | "all" => match a with | .lst ds => (blsD ds).map fun ns => .bl (ns.all id) | _ => none
    | "any" => match a with | .lst ds => (blsD ds).map fun ns => .bl (ns.any id) | _ => none
    | "max" => match a with | .lst ds => (match intsD ds with | some (x :: xs) => some (.int (maxI x xs)) | _ => none) | .tup ds => (match intsD ds with | some (x :: xs) => some (.int (maxI x xs)) | _ => none) | _ => none
    | "min" => match a with | .lst ds => (match intsD ds with | some (x :: xs) => some (.int (minI x xs)) | _ => none) | .tup ds => (match intsD ds with | some (x :: xs) => some (.int (minI x xs)) | _ => none) | _ => none
    | "sorted" => match a with | .lst ds => (intsD ds).map fun ns => .lst ((sortI ns).map .int) | _ => none
    | _ => none
  | [a, b] => match f with
    | "max" => match a, b with | .int i, .int j => some (.int (if j > i then j else i)) | _, _ => none
    | "min" => match a, b with | .int i, .int j => some (.int (if j < i then j else i)) | _, _ => none
    | _ => none
  | _ => none
/-- isinstance of data with a built-in class -/
def isiD (t : String) : D → Option Bool
  | .non => some false
  | .bl _ => some (t == "bool" || t == "int")
  | .int _ => some (t == "int")
  | .str _ => some (t == "str")
  | .tup _ => some (t == "tuple")
  | .lst _ => some (t == "list")
  | _ => none
/-- a built-in class's method that changes nothing -/
def mthD (T m : String) : D → List D → Option D
  | .dic ks, [.str x, d] => if T == "dict" && m == "get" then some (((ks.lookup (Sum.inr x : Key)).getD d)) else none
  | .dic ks, [.int x, d] => if T == "dict" && m == "get" then some (((ks.lookup (Sum.inl x : Key)).getD d)) else none
  | _, _ => none

/-! ### terms -/
/-- what a for or a comprehension stores to -/
inductive Tg where
  | nm (i : Nat) | tp (ts : List Nat) | tt (ts : List (Nat ⊕ List Nat))
mutual
inductive E where
  | lit (d : D) | var (i : Nat) | glob (x : Str)
  | bin (op : Operator) (a b : E) | cmp (op : CmpOp) (a b : E) | chn (o1 o2 : CmpOp) (a b c : E)
  | not (a : E) | neg (a : E) | con (es : Es) | dis (es : Es) | ife (c a b : E)
  | tup (es : Es) | lst (es : Es) | ix (a b : E) | sl (a : E) (lo hi : Eo) | rev (a : E)
  | call (f : Str) (es : Es) | bi (f : String) (es : Es) | isi (a : E) (t : String) | mth (T m : String) (a : E) (es : Es)
  | lc (x : E) (tg : Tg) (it : It) (c : Eo) (own : List (Str × Nat))
  | lc2 (x : E) (tg : Tg) (it : It) (c : Eo) (tg1 : Tg) (it1 : It) (c1 : Eo) (own : List (Str × Nat)) (vs1 : List Nat)
  | sset (a : E)
  | bor (i : Nat) (e : E)
  | oix (a b : E) | olen (a : E) | onew (es : Es) | olist (a : E) | om (m : String) (a e : E)
inductive Es where
  | nil | cons (e : E) (es : Es)
inductive Eo where
  | none | some (e : E)
inductive It where
  | sq (e : E) | r1 (a : E) | r2 (a b : E) | r3 (a b c : E) | en (e : E)
end
/-- a list made anew, for a slot of one's own -/
inductive Fr where
  | dsp (es : Es) | lc (x : E) (tg : Tg) (it : It) (c : Eo) (own : List (Str × Nat)) | lo (e : E)
/-- what an except suite does: a name is given the exception's place, or data; data is returned -/
inductive Hd where
  | fld (i j : Nat) | set (j : Nat) (d : D) | ret (d : D)
mutual
inductive S where
  | rse (c : Str) (e : E) | trye (b : Ss) (c : Str) (h : Hd)
  | set (i : Nat) (e : E) | new (i : Nat) (f : Fr) | tup (ts : List Nat) (e : E) | tgt (tg : Tg) (e : E) | par (ts : List Nat) (es : List (E ⊕ Fr))
  | aug (i : Nat) (op : Operator) (e : E) | app (i : Nat) (e : E) | ext (i : Nat) (e : E) | put (i : Nat) (k e : E) | oput (a k e : E)
  | ret (e : E) | ret0 | mv (i : Nat) | ife (c : E) (a b : Ss) | whl (c : E) (b : Ss) | for_ (tg : Tg) (it : It) (b : Ss)
  | exp (e : E) | pass | brk | cnt
inductive Ss where
  | nil | cons (s : S) (r : Ss) | frz (i : Nat) (r : Ss)
end

/-! ### meaning -/
def getD' (env : Env) (i : Nat) : Option D := match env[i]? with
  | some (.v d) => some d
  | _ => none
mutual
def noL : D → Bool
  | .tup ds => noLs ds
  | .lst _ => false | .dic _ => false | .loc _ => false
  | _ => true
def noLs : List D → Bool
  | [] => true
  | d :: ds => noL d && noLs ds
end
def noLO : Ob → Bool
  | .ins _ fs => noLs (fs.map (·.2))
  | .ls ds => noLs ds
  | .dk ks => noLs (ks.map (·.2))
def wipeE (env : Env) : List Nat → Env
  | [] => env
  | v :: vs => (wipeE env vs).set v .un
def setTs : List Nat → List D → Env → Option Env
  | [], [], env => some env
  | i :: is, d :: ds, env => setTs is ds (env.set i (.v d))
  | _, _, _ => none
def setT1 : Nat ⊕ List Nat → D → Env → Option Env
  | .inl i, d, env => some (env.set i (.v d))
  | .inr ts, .tup ds, env => if ds.length = ts.length then setTs ts ds env else none
  | _, _, _ => none
def setTt : List (Nat ⊕ List Nat) → List D → Env → Option Env
  | [], [], env => some env
  | t :: ts, d :: ds, env => (setT1 t d env).bind (setTt ts ds)
  | _, _, _ => none
def setTg : Tg → D → Env → Option Env
  | .nm i, d, env => some (env.set i (.v d))
  | .tp ts, .tup ds, env => if ds.length = ts.length then setTs ts ds env else none
  | .tt ts, .tup ds, env => if ds.length = ts.length then setTt ts ds env else none
  | _, _, _ => none
def rangeD (lo : Int) (n : Nat) (c : Int) : List D := (List.range n).map fun (i : Nat) => D.int (lo + (i : Nat) * c)
def enumD (ds : List D) : List D := ds.zipIdx.map fun p => D.tup [.int (p.2 : Nat), p.1]
def smallI (a : Int) : Bool := decide (a.natAbs < 4611686018427387904)
theorem smallI_ok {a : Int} (h : smallI a = true) : -(2 ^ 62) ≤ a ∧ a < 2 ^ 62 := by
  have := of_decide_eq_true h
  have : (2:Int)^62 = 4611686018427387904 := by decide
  omega

/-- an object that is a list -/
def lsO (o : Obs) : D → Option (List D)
  | .obj n => match o[n]? with
    | some (.ls ds) => some ds
    | _ => none
  | _ => none
def setO (o : Obs) : D → List D → Obs
  | .obj n, ds => o.set n (.ls ds)
  | _, _ => o
/-- a shared list's methods -/
def omD (m : String) (o : Obs) (x a : D) : Option (D × Obs) := match lsO o x with
  | none => none
  | some ds => if m == "append" then (if ds.length < sizeLine then some (.non, setO o x (ds ++ [a])) else none)
    else if m == "extend" then (match a with
      | .lst es => if ds.length + es.length ≤ sizeLine then some (.non, setO o x (ds ++ es)) else none
      | _ => none)
    else if m == "pop" then (match a with
      | .int i => if decide (-(2 ^ 63) ≤ i ∧ i < 2 ^ 63) then (match seqIndex? i ds.length with
        | some k => (ds[k]?).map fun y => (y, setO o x (ds.eraseIdx k))
        | none => none) else none
      | _ => none)
    else none
section
variable (Φ : Str → List D → Obs → R D) (G : Str → Option D)
/-- the list of a comprehension, item by item -/
def lcD (own : List Nat) (tg : Tg) (t : Env → Obs → R Bool) (x : Env → Obs → R D) (env : Env) : List D → List D → Obs → R (List D)
  | [], acc, o => .ok acc o
  | d :: ds, acc, o => match setTg tg d (wipeE env own) with
    | none => .bad
    | some env' => (t env' o).noex.bind fun b o => if b then (x env' o).noex.bind fun y o => if acc.length < sizeLine then lcD own tg t x env ds (acc ++ [y]) o else .bad else lcD own tg t x env ds acc o
/-- .. of one with two fors -/
def lc2D (own vs1 : List Nat) (tg : Tg) (t : Env → Obs → R Bool) (it1 : Env → Obs → R (List D)) (tg1 : Tg) (t1 : Env → Obs → R Bool) (x : Env → Obs → R D) (env : Env) : List D → List D → Obs → R (List D)
  | [], acc, o => .ok acc o
  | d :: ds, acc, o => match setTg tg d (wipeE env own) with
    | none => .bad
    | some env' => (t env' o).noex.bind fun b o => if b then (it1 env' o).noex.bind fun es o => (lcD vs1 tg1 t1 x env' es acc o).bind fun acc o => lc2D own vs1 tg t it1 tg1 t1 x env ds acc o else lc2D own vs1 tg t it1 tg1 t1 x env ds acc o
/-- an expression's meaning: as a value, as a test -/
structure PR where
  v : Env → Obs → R D
  t : Env → Obs → R Bool
def mkP (v : Env → Obs → R D) : PR := ⟨v, fun env o => (v env o).bind fun x o => R.opt o (truD x)⟩
/-- the same, of a row of and, of or -/
structure PRs where
  v : Env → Obs → R (List D)
  cv : Env → Obs → R D
  dv : Env → Obs → R D
  ct : Env → Obs → R Bool
  dt : Env → Obs → R Bool
mutual
def denP : E → PR
  | .lit d => mkP fun _ o => .ok d o
  | .var i => mkP fun env o => R.opt o (getD' env i)
  | .glob x => mkP fun _ o => R.opt o (G x)
  | .bin op a b => mkP fun env o => ((denP a).v env o).bind fun x o => ((denP b).v env o).bind fun y o => R.opt o (binD op x y)
  | .cmp op a b => mkP fun env o => ((denP a).v env o).bind fun x o => ((denP b).v env o).bind fun y o => R.opt o ((cmpD op x y).map .bl)
  | .chn o1 o2 a b c => mkP fun env o => ((denP a).v env o).bind fun x o => ((denP b).v env o).bind fun y o => match cmpD o1 x y with
    | some true => ((denP c).v env o).bind fun z o => R.opt o ((cmpD o2 y z).map .bl)
    | some false => .ok (.bl false) o
    | none => .bad
  | .not a => ⟨fun env o => ((denP a).v env o).bind fun x o => match x with | .bl b => .ok (.bl (!b)) o | _ => .bad, fun env o => ((denP a).t env o).map (!·)⟩
  | .neg a => mkP fun env o => ((denP a).v env o).bind fun x o => match x with | .int i => .ok (.int (-i)) o | _ => .bad
  | .con es => ⟨(denPs' es).cv, (denPs' es).ct⟩
  | .dis es => ⟨(denPs' es).dv, (denPs' es).dt⟩
  | .ife c a b => ⟨fun env o => ((denP c).t env o).bind fun k o => if k then (denP a).v env o else (denP b).v env o, fun env o => ((denP c).t env o).bind fun k o => if k then (denP a).t env o else (denP b).t env o⟩
  | .tup es => mkP fun env o => ((denPs' es).v env o).bind fun ds o => if ds.length ≤ sizeLine then .ok (.tup ds) o else .bad
  | .lst es => mkP fun env o => ((denPs' es).v env o).bind fun ds o => if ds.length ≤ sizeLine then .ok (.lst ds) o else .bad
  | .ix a b => mkP fun env o => ((denP a).v env o).bind fun x o => ((denP b).v env o).bind fun y o => R.opt o (ixD x y)
  | .sl a lo hi => mkP fun env o => ((denP a).v env o).bind fun x o => (denO lo env o).bind fun l o => (denO hi env o).bind fun h o => R.opt o (slD x l h)
  | .rev a => mkP fun env o => ((denP a).v env o).bind fun x o => R.opt o (revD x)
  | .call f es => mkP fun env o => ((denPs' es).v env o).bind fun ds o => Φ f ds o
  | .bi f es => mkP fun env o => ((denPs' es).v env o).bind fun ds o => R.opt o (biD f ds)
  | .isi a t => mkP fun env o => ((denP a).v env o).bind fun x o => R.opt o ((isiD t x).map .bl)
  | .mth T m a es => mkP fun env o => ((denP a).v env o).bind fun x o => ((denPs' es).v env o).bind fun ds o => R.opt o (mthD T m x ds)
  | .lc x tg it c own => mkP fun env o => ((denI it env o).bind fun ds o => lcD (own.map (·.2)) tg (denC c) (denP x).v env ds [] o).map .lst
  | .lc2 x tg it c tg1 it1 c1 own vs1 => mkP fun env o => ((denI it env o).bind fun ds o => lc2D (own.map (·.2)) vs1 tg (denC c) (denI it1) tg1 (denC c1) (denP x).v env ds [] o).map .lst
  | .sset a => mkP fun env o => ((denP a).v env o).bind fun x o => R.opt o (ssetD x)
  | .bor i e => ⟨fun env o => match env[i]? with
    | some (.ol ds) => ((denP e).v (env.set i (.v (.lst ds))) o).noex.bind fun d o => if noL d && o.all noLO then .ok d o else .bad
    | _ => .bad, fun env o => match env[i]? with
    | some (.ol ds) => ((denP e).t (env.set i (.v (.lst ds))) o).noex.bind fun d o => if true && o.all noLO then .ok d o else .bad
    | _ => .bad⟩
  | .oix a b => mkP fun env o => ((denP a).v env o).bind fun x o => ((denP b).v env o).bind fun y o => R.opt o (match y with | .int i => (lsO o x).bind fun ds => atI ds i | _ => none)
  | .olen a => mkP fun env o => ((denP a).v env o).bind fun x o => R.opt o ((lsO o x).map fun ds => .int ds.length)
  | .onew es => mkP fun env o => ((denPs' es).v env o).bind fun ds o => if ds.length ≤ sizeLine then .ok (.obj o.length) (o ++ [.ls ds]) else .bad
  | .olist a => mkP fun env o => ((denP a).v env o).bind fun x o => match x with | .lst ds => .ok (.obj o.length) (o ++ [.ls ds]) | .tup ds => .ok (.obj o.length) (o ++ [.ls ds]) | _ => .bad
  | .om m a e => mkP fun env o => ((denP a).v env o).bind fun x o => match lsO o x with | none => .bad | some _ => ((denP e).v env o).bind fun d o => match omD m o x d with | some y => .ok y.1 y.2 | none => .bad
  termination_by structural e => e
def denPs' : Es → PRs
  | .nil => ⟨fun _ o => .ok [] o, fun _ _ => .bad, fun _ _ => .bad, fun _ _ => .bad, fun _ _ => .bad⟩
  | .cons e r => ⟨fun env o => ((denP e).v env o).bind fun x o => ((denPs' r).v env o).bind fun xs o => .ok (x :: xs) o,
    fun env o => match r with
      | .nil => (denP e).v env o
      | .cons _ _ => ((denP e).v env o).bind fun x o => match x with | .bl true => (denPs' r).cv env o | .bl false => .ok (.bl false) o | _ => .bad,
    fun env o => match r with
      | .nil => (denP e).v env o
      | .cons _ _ => ((denP e).v env o).bind fun x o => match x with | .bl false => (denPs' r).dv env o | .bl true => .ok (.bl true) o | _ => .bad,
    fun env o => match r with
      | .nil => (denP e).t env o
      | .cons _ _ => ((denP e).t env o).bind fun k o => if k then (denPs' r).ct env o else .ok false o,
    fun env o => match r with
      | .nil => (denP e).t env o
      | .cons _ _ => ((denP e).t env o).bind fun k o => if k then .ok true o else (denPs' r).dt env o⟩
  termination_by structural es => es
def denO : Eo → Env → Obs → R (Option Int)
  | .none, _, o => .ok none o
  | .some e, env, o => ((denP e).v env o).bind fun x o => match x with | .int i => .ok (some i) o | _ => .bad
  termination_by structural e => e
def denC : Eo → Env → Obs → R Bool
  | .none, _, o => .ok true o
  | .some e, env, o => (denP e).t env o
  termination_by structural e => e
def denI : It → Env → Obs → R (List D)
  | .sq e, env, o => ((denP e).v env o).bind fun x o => match x with | .lst ds => .ok ds o | .tup ds => .ok ds o | _ => .bad
  | .r1 a, env, o => ((denP a).v env o).bind fun x o => match x with | .int n => if smallI n then .ok (rangeD 0 n.toNat 1) o else .bad | _ => .bad
  | .r2 a b, env, o => ((denP a).v env o).bind fun x o => ((denP b).v env o).bind fun y o => match x, y with | .int i, .int j => if smallI i && smallI j then .ok (rangeD i (j - i).toNat 1) o else .bad | _, _ => .bad
  | .r3 a b c, env, o => ((denP a).v env o).bind fun x o => ((denP b).v env o).bind fun y o => ((denP c).v env o).bind fun z o => match x, y, z with
    | .int i, .int j, .int k => if Builtin.Range.small i j k && decide (k ≠ 0 ∧ k.natAbs < 1073741824 ∧ 0 ≤ Builtin.Range.rangeSize i j k) then .ok (rangeD i (Builtin.Range.rangeSize i j k).toNat k) o else .bad
    | _, _, _ => .bad
  | .en e, env, o => ((denP e).v env o).bind fun x o => match x with | .lst ds => .ok (enumD ds) o | .tup ds => .ok (enumD ds) o | _ => .bad
  termination_by structural e => e
end
def denE (e : E) : Env → Obs → R D := (denP Φ G e).v
def denT (e : E) : Env → Obs → R Bool := (denP Φ G e).t
def denEs (es : Es) : Env → Obs → R (List D) := (denPs' Φ G es).v
def denCon (es : Es) : Env → Obs → R D := (denPs' Φ G es).cv
def denDis (es : Es) : Env → Obs → R D := (denPs' Φ G es).dv
def denTC (es : Es) : Env → Obs → R Bool := (denPs' Φ G es).ct
def denTD (es : Es) : Env → Obs → R Bool := (denPs' Φ G es).dt
def denF : Fr → Env → Obs → R (List D)
  | .dsp es, env, o => (denEs Φ G es env o).bind fun ds o => if ds.length ≤ sizeLine then .ok ds o else .bad
  | .lc x tg it c own, env, o => (denI Φ G it env o).bind fun ds o => lcD (own.map (·.2)) tg (denC Φ G c) (denE Φ G x) env ds [] o
  | .lo e, env, o => (denE Φ G e env o).bind fun x o => match x with | .lst ds => .ok ds o | .tup ds => .ok ds o | _ => .bad
/-- parts of a parallel store: data, or a list of one's own -/
def denPs : List (E ⊕ Fr) → Env → Obs → R (List Sl)
  | [], _, o => .ok [] o
  | .inl e :: r, env, o => (denE Φ G e env o).bind fun x o => (denPs r env o).bind fun xs o => .ok (.v x :: xs) o
  | .inr f :: r, env, o => (denF Φ G f env o).bind fun x o => (denPs r env o).bind fun xs o => .ok (.ol x :: xs) o
def setSl : List Nat → List Sl → Env → Option Env
  | [], [], env => some env
  | i :: is, s :: ss, env => setSl is ss (env.set i s)
  | _, _, _ => none
def R.st {α : Type} (env : Env) (x : R α) (f : α → Obs → RS) : RS := match x with
  | .ok a o => f a o
  | .ex c a o => .ex c a env o
  | .bad => .bad
def RS.seq (x : RS) (f : Env → Obs → RS) : RS := match x with
  | .nx e o => f e o
  | y => y
@[simp] theorem R.st_ok {α : Type} (env : Env) (a : α) (o : Obs) (f : α → Obs → RS) : (R.ok a o).st env f = f a o := (rfl)
@[simp] theorem R.st_bad {α : Type} (env : Env) (f : α → Obs → RS) : (R.bad : R α).st env f = .bad := (rfl)
@[simp] theorem R.st_ex {α : Type} (env : Env) (c : Str) (a : D) (o : Obs) (f : α → Obs → RS) : (R.ex c a o : R α).st env f = .ex c a env o := (rfl)
@[simp] theorem RS.seq_nx (e : Env) (o : Obs) (f : Env → Obs → RS) : (RS.nx e o).seq f = f e o := (rfl)
@[simp] theorem RS.seq_rt (d : D) (o : Obs) (f : Env → Obs → RS) : (RS.rt d o).seq f = .rt d o := (rfl)
@[simp] theorem RS.seq_bk (e : Env) (o : Obs) (f : Env → Obs → RS) : (RS.bk e o).seq f = .bk e o := (rfl)
@[simp] theorem RS.seq_ct (e : Env) (o : Obs) (f : Env → Obs → RS) : (RS.ct e o).seq f = .ct e o := (rfl)
@[simp] theorem RS.seq_bad (f : Env → Obs → RS) : RS.bad.seq f = .bad := (rfl)
@[simp] theorem RS.seq_ex (c : Str) (a : D) (e : Env) (o : Obs) (f : Env → Obs → RS) : (RS.ex c a e o).seq f = .ex c a e o := (rfl)
/-- a while, so many turns at most -/
def whileD (c : Env → Obs → R Bool) (b : Env → Obs → RS) : Nat → Env → Obs → RS
  | 0, _, _ => .bad
  | n + 1, env, o => (c env o).st env fun k o => if k then (match b env o with
    | .nx e o => whileD c b n e o
    | .ct e o => whileD c b n e o
    | .bk e o => .nx e o
    | y => y) else .nx env o
def forD (tg : Tg) (b : Env → Obs → RS) : List D → Env → Obs → RS
  | [], env, o => .nx env o
  | d :: ds, env, o => match setTg tg d env with
    | none => .bad
    | some env => match b env o with
      | .nx e o => forD tg b ds e o
      | .ct e o => forD tg b ds e o
      | .bk e o => .nx e o
      | y => y
def denHd : Hd → D → Env → Obs → RS
  | .fld i j, .int k, env, o => if i < env.length then .nx (((env.set i .un).set j (.v (.int k))).set i .un) o else .bad
  | .fld _ _, _, _, _ => .bad
  | .set j d, _, env, o => .nx (env.set j (.v d)) o
  | .ret d, _, _, o => .rt d o
/-- the exceptions of one class are caught, others are not followed -/
def tryD (c : Str) (h : Hd) : RS → RS
  | .ex c' a e o => if c' = c then denHd h a e o else .bad
  | y => y
def raiseD (c : Str) (env : Env) (x : D) (o : Obs) : RS := match x with
  | .int i => if i.natAbs < 1000000 then .ex c (.int i) env o else .bad
  | _ => .bad
variable (N : Nat)
mutual
def denS : S → Env → Obs → RS
  | .rse c e, env, o => (denE Φ G e env o).st env (raiseD c env)
  | .trye b c h, env, o => tryD c h (denSs b env o)
  | .set i e, env, o => (denE Φ G e env o).st env fun x o => .nx (env.set i (.v x)) o
  | .new i f, env, o => (denF Φ G f env o).st env fun x o => .nx (env.set i (.ol x)) o
  | .tup ts e, env, o => (denE Φ G e env o).st env fun x o => match setTg (.tp ts) x env with | some env => .nx env o | none => .bad
  | .tgt tg e, env, o => (denE Φ G e env o).st env fun x o => match setTg tg x env with | some env => .nx env o | none => .bad
  | .par ts es, env, o => (denPs Φ G es env o).st env fun xs o => match setSl ts xs env with | some env => .nx env o | none => .bad
  | .aug i op e, env, o => match env[i]? with
    | some (.v x) => (denE Φ G e env o).st env fun y o => match augD op x y with
      | some z => .nx (env.set i (.v z)) o
      | none => .bad
    | _ => .bad
  | .app i e, env, o => match env[i]? with
    | some (.ol ds) => (denE Φ G e env o).st env fun x o => if ds.length < sizeLine then .nx (env.set i (.ol (ds ++ [x]))) o else .bad
    | _ => .bad
  | .ext i e, env, o => match env[i]? with
    | some (.ol ds) => (denE Φ G e env o).st env fun x o => match x with
      | .lst es => if ds.length + es.length ≤ sizeLine then .nx (env.set i (.ol (ds ++ es))) o else .bad
      | _ => .bad
    | _ => .bad
  | .put i k e, env, o => match env[i]? with
    | some (.ol ds) => (denE Φ G e env o).st env fun x o => (denE Φ G k env o).st env fun y o => match y with
      | .int j => match ixN ds.length j with
        | some n => .nx (env.set i (.ol (ds.set n x))) o
        | none => .bad
      | _ => .bad
    | _ => .bad
  | .oput a k e, env, o => (denE Φ G e env o).st env fun x o => (denE Φ G a env o).st env fun y o => (denE Φ G k env o).st env fun z o => match z with
    | .int j => match lsO o y with
      | some ds => match ixN ds.length j with
        | some n => .nx env (setO o y (ds.set n x))
        | none => .bad
      | none => .bad
    | _ => .bad
  | .ret e, env, o => (denE Φ G e env o).st env fun x o => .rt x o
  | .ret0, _, o => .rt .non o
  | .mv i, env, o => match env[i]? with
    | some (.ol ds) => .rt (.lst ds) o
    | _ => .bad
  | .ife c a b, env, o => (denT Φ G c env o).st env fun k o => if k then denSs a env o else denSs b env o
  | .whl c b, env, o => whileD (denT Φ G c) (denSs b) N env o
  | .for_ tg it b, env, o => (denI Φ G it env o).st env fun ds o => forD tg (denSs b) ds env o
  | .exp e, env, o => (denE Φ G e env o).st env fun _ o => .nx env o
  | .pass, env, o => .nx env o
  | .brk, env, o => .bk env o
  | .cnt, env, o => .ct env o
  termination_by structural s => s
def denSs : Ss → Env → Obs → RS
  | .nil, env, o => .nx env o
  | .cons s r, env, o => (denS s env o).seq fun env o => denSs r env o
  | .frz i r, env, o => match env[i]? with
    | some (.ol ds) => denSs r (env.set i (.v (.lst ds))) o
    | _ => denSs r env o
  termination_by structural s => s
end
end
/-! ### programs -/
structure Fn where
  ps : Nat
  sl : Nat
  body : Ss
def runFn (f : Fn) (Φ : Str → List D → Obs → R D) (G : Str → Option D) (N : Nat) (ds : List D) (o : Obs) : R D :=
  if ds.length = f.ps then match denSs Φ G N f.body (ds.map .v ++ List.replicate (f.sl - f.ps) .un) o with
    | .rt d o => .ok d o
    | .nx _ o => .ok .non o
    | .ex c a _ o => .ex c a o
    | _ => .bad
  else .bad
/-- a program: its defs, those whose meaning is given, its constants -/
structure Pg where
  fn : List (Str × Fn)
  xt : List (Str × Nat × (List D → Obs → R D))
  gl : List (Str × D)
def Pg.call (P : Pg) (N : Nat) : Nat → Str → List D → Obs → R D
  | 0, _, _, _ => .bad
  | n + 1, f, ds, o => match P.fn.lookup f with
    | some e => runFn e (P.call N n) (fun x => P.gl.lookup x) N ds o
    | none => match P.xt.lookup f with
      | some g => if g.1 ≤ n + 1 then g.2 ds o else .bad
      | none => .bad
end Mp

set_option Elab.async false
set_option linter.all false
set_option maxRecDepth 100000
/-! The operators over data are the model's. -/
namespace Mp
open PySem PySem.Spec PyProof.Rows L2

section
variable {K : PySem.W.Frag} {CA : Str → Option Addr} {W : Wd} {H : Hp} {obs : Obs} {env : Env} {σ : L2.St}

theorem SRel.fh (S : SRel K CA W σ H env obs) : ∀ p o, W.F p = some o → H p = some o := fun p o h => S.h.fro p o (Wd.F_of.mp h)
theorem SRel.tup (S : SRel K CA W σ H env obs) {v : V} {ds : List D} (h : W.rep K v (.tup ds)) : ∃ p vs, v = .ref p ∧ SqT K H p vs ∧ W.reps K vs ds := by
  obtain ⟨p, vs, e, q, r⟩ := h.to_tup
  exact ⟨p, vs, e, SqT.mono q S.fh, r⟩
theorem SRel.lst (S : SRel K CA W σ H env obs) {v : V} {ds : List D} (h : W.rep K v (.lst ds)) : ∃ p vs, v = .ref p ∧ H p = some (.lst vs) ∧ W.reps K vs ds := by
  obtain ⟨p, vs, e, q, r⟩ := h.to_lst
  exact ⟨p, vs, e, S.fh _ _ q, r⟩
/-- a two-place operation is g over data -/
def Op2 (K : PySem.W.Frag) (CA : Str → Option Addr) (r : R2) (g : D → D → Option D) : Prop :=
  ∀ (W : Wd) (σ : L2.St) (H : Hp) (env : Env) (obs : Obs) (x y : V) (a b d : D) (Q : V → Hp → Prop), SRel K CA W σ H env obs → W.rep K x a → W.rep K y b → g a b = some d →
    (∀ v W' H', W.leE W' H H' → SRel K CA W' σ H' env obs → W'.rep K v d → Q v H') → r x y H Q
/-- a call by values is g over data -/
def Op1 (K : PySem.W.Frag) (CA : Str → Option Addr) (r : List V → Hp → VK → Prop) (g : List D → Option D) : Prop :=
  ∀ (W : Wd) (σ : L2.St) (H : Hp) (env : Env) (obs : Obs) (xs : List V) (as : List D) (d : D) (Q : V → Hp → Prop), SRel K CA W σ H env obs → W.reps K xs as → g as = some d →
    (∀ v W' H', W.leE W' H H' → SRel K CA W' σ H' env obs → W'.rep K v d → Q v H') → r xs H Q
end

/-! ### arithmetic -/
section
variable {X : Cx} {CA : Str → Option Addr}
theorem natAbs_lt {a : Int} (h : a.natAbs < 2 ^ 64) : -(2 ^ 64) < a ∧ a < 2 ^ 64 := by
  have : (2:Nat)^64 = 18446744073709551616 := by decide
  have : (2:Int)^64 = 18446744073709551616 := by decide
  omega
theorem add_ok : ∃ r, OpR X (binaryOp .Add) r ∧ Op2 X.K CA r addD := by
  refine ⟨_, OpR.or op_add (OpR.or op_add_str (OpR.or op_catA op_cat)), ?_⟩
  intro W σ H env obs x y a b d Q S rx ry e q
  unfold addD at e
  split at e
  · cases e; cases rx; cases ry
    exact .inl ⟨_, _, rfl, rfl, q _ W H .refl S (.int _)⟩
  · split at e
    · rename_i h; cases e; cases rx; cases ry
      exact .inr (.inl ⟨_, _, rfl, rfl, h, q _ W H .refl S (.str _)⟩)
    · cases e
  · split at e
    · rename_i u w h; cases e
      obtain ⟨p, vs, rfl, h1, r1⟩ := S.tup rx
      obtain ⟨p2, us, rfl, h2, r2⟩ := S.tup ry
      refine .inr (.inr (.inl ⟨p, p2, vs, us, rfl, rfl, h1, h2, by rw [r1.length, r2.length]; exact h, fun z => ?_, fun _ z => ?_, fun _ _ => GP.tup S q (r1.append r2)⟩))
      · subst z; cases r1; exact q _ W H .refl S ry
      · subst z; cases r2; rw [List.append_nil] at q; exact q _ W H .refl S rx
    · cases e
  · split at e
    · rename_i u w h; cases e
      obtain ⟨p, vs, rfl, h1, r1⟩ := S.lst rx
      obtain ⟨p2, us, rfl, h2, r2⟩ := S.lst ry
      exact .inr (.inr (.inr ⟨p, p2, vs, us, rfl, rfl, h1, h2, by rw [r1.length, r2.length]; exact h, GP.lst S q (r1.append r2)⟩))
    · cases e
  · cases e
theorem sub_ok : ∃ r, OpR X (binaryOp .Sub) r ∧ Op2 X.K CA r subD := by
  refine ⟨_, op_sub, ?_⟩
  intro W σ H env obs x y a b d Q S rx ry e q
  unfold subD at e
  split at e
  · cases e; cases rx; cases ry
    exact ⟨_, _, rfl, rfl, q _ W H .refl S (.int _)⟩
  · cases e
theorem div_ok : ∃ r, OpR X (binaryOp .FloorDiv) r ∧ Op2 X.K CA r divD := by
  refine ⟨_, OpR.or op_fdivN op_fdivW, ?_⟩
  intro W σ H env obs x y a b d Q S rx ry e q
  unfold divD at e
  split at e
  · split at e
    · rename_i i j h; cases e; cases rx; cases ry
      rw [Bool.or_eq_true] at h
      rcases h with h | h
      · exact .inl ⟨_, _, rfl, rfl, (by have := of_decide_eq_true h; exact this), q _ W H .refl S (.int _)⟩
      · have h := of_decide_eq_true h
        rw [Int.fdiv_eq_ediv_of_nonneg _ (by omega)] at q
        exact .inr ⟨_, _, rfl, rfl, h, q _ W H .refl S (.int _)⟩
    · cases e
  · cases e
theorem mod_ok : ∃ r, OpR X (binaryOp .Mod) r ∧ Op2 X.K CA r modD := by
  refine ⟨_, op_modN, ?_⟩
  intro W σ H env obs x y a b d Q S rx ry e q
  unfold modD at e
  split at e
  · split at e
    · cases e
    · rename_i h; cases e; cases rx; cases ry
      exact ⟨_, _, rfl, rfl, h, q _ W H .refl S (.int _)⟩
  · cases e
theorem pow_ok : ∃ r, OpR X (binaryOp .Pow) r ∧ Op2 X.K CA r powD := by
  refine ⟨_, op_pow, ?_⟩
  intro W σ H env obs x y a b d Q S rx ry e q
  unfold powD at e
  split at e
  · split at e
    · rename_i h; cases e; cases rx; cases ry
      exact ⟨_, _, rfl, rfl, (by have := of_decide_eq_true h; exact this), q _ W H .refl S (.int _)⟩
    · cases e
  · cases e
theorem shl_ok : ∃ r, OpR X (binaryOp .LShift) r ∧ Op2 X.K CA r shlD := by
  refine ⟨_, op_shl, ?_⟩
  intro W σ H env obs x y a b d Q S rx ry e q
  unfold shlD at e
  split at e
  · split at e
    · rename_i h; cases e; cases rx; cases ry
      exact ⟨_, _, rfl, rfl, (by have := of_decide_eq_true h; exact this), q _ W H .refl S (.int _)⟩
    · cases e
  · cases e
end

/-! ### comparisons -/
section
variable {K : PySem.W.Frag} {F H : Hp} {A : List Addr}
mutual
theorem Rep.dp (hf : ∀ p o, F p = some o → H p = some o) : ∀ {d : D} {v : V} {x : PyData}, Rep K F A v d → toP d = some x → Dp K H v x
  | .non, _, _, .non, e => by simp [toP] at e; subst e; exact .non
  | .bl _, _, _, .bl _, e => by simp [toP] at e; subst e; exact .bl _
  | .int _, _, _, .int _, e => by simp [toP] at e; subst e; exact .int _
  | .str _, _, _, .str _, e => by simp [toP] at e; subst e; exact .str _
  | .ty _, _, _, .ty _, e => by simp [toP] at e
  | .tup ds, _, _, .tup h r, e => by
    simp only [toP, Option.map_eq_some_iff] at e
    obtain ⟨z, e1, rfl⟩ := e
    exact .tup (SqT.mono h hf) (Reps.dp hf r e1)
  | .lst ds, _, _, .lst h r, e => by
    simp only [toP, Option.map_eq_some_iff] at e
    obtain ⟨z, e1, rfl⟩ := e
    exact .lst (SqL.of (hf _ _ h)) (Reps.dp hf r e1)
  | .dic _, _, _, .dic _ _ _, e => by simp [toP] at e
  | .obj _, _, _, .obj _, e => by simp [toP] at e
  | .loc _, _, _, .loc _, e => by simp [toP] at e
theorem Reps.dp (hf : ∀ p o, F p = some o → H p = some o) : ∀ {ds : List D} {vs : List V} {xs : List PyData}, Reps K F A vs ds → toPs ds = some xs → DpAll K H vs xs
  | [], _, _, .nil, e => by simp [toPs] at e; subst e; exact .nil
  | d :: ds, _, _, .cons h r, e => by
    simp only [toPs, Option.bind_eq_bind, Option.bind_eq_some_iff, Option.some.injEq] at e
    obtain ⟨x, e1, xs, e2, rfl⟩ := e
    exact .cons (Rep.dp hf h e1) (Reps.dp hf r e2)
end
theorem intsD_some : ∀ {ds : List D} {ns : List Int}, intsD ds = some ns → ds = ns.map D.int
  | [], _, e => by simp [intsD] at e; subst e; rfl
  | .int i :: ds, _, e => by
    simp only [intsD, Option.map_eq_some_iff] at e
    obtain ⟨ns, e1, rfl⟩ := e
    rw [intsD_some e1]; rfl
  | .non :: _, _, e => by simp [intsD] at e
  | .bl _ :: _, _, e => by simp [intsD] at e
  | .str _ :: _, _, e => by simp [intsD] at e
  | .ty _ :: _, _, e => by simp [intsD] at e
  | .tup _ :: _, _, e => by simp [intsD] at e
  | .lst _ :: _, _, e => by simp [intsD] at e
  | .dic _ :: _, _, e => by simp [intsD] at e
  | .obj _ :: _, _, e => by simp [intsD] at e
  | .loc _ :: _, _, e => by simp [intsD] at e
theorem blsD_some : ∀ {ds : List D} {ns : List Bool}, blsD ds = some ns → ds = ns.map D.bl
  | [], _, e => by simp [blsD] at e; subst e; rfl
  | .bl i :: ds, _, e => by
    simp only [blsD, Option.map_eq_some_iff] at e
    obtain ⟨ns, e1, rfl⟩ := e
    rw [blsD_some e1]; rfl
  | .non :: _, _, e => by simp [blsD] at e
  | .int _ :: _, _, e => by simp [blsD] at e
  | .str _ :: _, _, e => by simp [blsD] at e
  | .ty _ :: _, _, e => by simp [blsD] at e
  | .tup _ :: _, _, e => by simp [blsD] at e
  | .lst _ :: _, _, e => by simp [blsD] at e
  | .dic _ :: _, _, e => by simp [blsD] at e
  | .obj _ :: _, _, e => by simp [blsD] at e
  | .loc _ :: _, _, e => by simp [blsD] at e
theorem intsD_map (ns : List Int) : intsD (ns.map D.int) = some ns := by
  induction ns with
  | nil => rfl
  | cons n ns ih => simp [intsD, ih]
theorem blsD_map (ns : List Bool) : blsD (ns.map D.bl) = some ns := by
  induction ns with
  | nil => rfl
  | cons n ns ih => simp [blsD, ih]
theorem Rep.flat {v : V} {d : D} (h : Rep K F A v d) (f : flatD d = true) : flatV v = true := by
  cases h <;> first | rfl | (simp [flatD] at f)
theorem Reps.flat : ∀ {vs : List V} {ds : List D}, Reps K F A vs ds → ds.all flatD = true → vs.all flatV = true
  | _, _, .nil, _ => rfl
  | _, _, .cons h r, f => by
    rw [List.all_cons, Bool.and_eq_true] at f
    rw [List.all_cons, Rep.flat h f.1, Reps.flat r f.2]; rfl
theorem Rep.feq {v u : V} {d e : D} (h : Rep K F A v d) (g : Rep K F A u e) (f1 : flatD d = true) (f2 : flatD e = true) : eqV v u = feqD d e := by
  cases h <;> cases g <;> first | rfl | (simp [flatD] at f1) | (simp [flatD] at f2)
theorem Reps.inv {v : V} {d : D} (h : Rep K F A v d) (f : flatD d = true) : ∀ {vs : List V} {ds : List D}, Reps K F A vs ds → ds.all flatD = true → inV v vs = ds.any fun y => feqD y d
  | _, _, .nil, _ => rfl
  | _, _, .cons g r, f2 => by
    rw [List.all_cons, Bool.and_eq_true] at f2
    unfold inV
    rw [List.any_cons, List.any_cons, Rep.feq g h f2.1 f]
    exact congrArg _ (Reps.inv h f r f2.2)
theorem Rep.non_iff {v : V} {d : D} (h : Rep K F A v d) : decide (v = .non) = (match d with | .non => true | _ => false) := by
  cases h <;> simp
end
/-- a comparison is g over data -/
def Cm2 (K : PySem.W.Frag) (CA : Str → Option Addr) (r : R2) (g : D → D → Option Bool) : Prop :=
  ∀ (W : Wd) (σ : L2.St) (H : Hp) (env : Env) (obs : Obs) (x y : V) (a b : D) (k : Bool) (Q : V → Hp → Prop), SRel K CA W σ H env obs → W.rep K x a → W.rep K y b → g a b = some k → Q (.bl k) H → r x y H Q
section
variable {X : Cx} {CA : Str → Option Addr}
theorem eq_ok (hu : X.A.units + 64 < cLine) : ∃ r, OpR X (compareOp .Eq) r ∧ Cm2 X.K CA r eqD := by
  refine ⟨_, op_eqD hu, ?_⟩
  intro W σ H env obs x y a b k Q S rx ry e q
  simp only [eqD, Option.bind_eq_bind, Option.bind_eq_some_iff] at e
  obtain ⟨u, e1, w, e2, e⟩ := e
  split at e
  · rename_i h; cases e
    rw [Bool.and_eq_true] at h
    exact ⟨u, w, Rep.dp S.fh rx e1, Rep.dp S.fh ry e2, h.1, h.2, q⟩
  · cases e
theorem ne_ok (hu : X.A.units + 64 < cLine) : ∃ r, OpR X (compareOp .NotEq) r ∧ Cm2 X.K CA r (fun a b => (eqD a b).map (!·)) := by
  refine ⟨_, op_neD hu, ?_⟩
  intro W σ H env obs x y a b k Q S rx ry e q
  simp only [Option.map_eq_some_iff] at e
  obtain ⟨k', e, rfl⟩ := e
  simp only [eqD, Option.bind_eq_bind, Option.bind_eq_some_iff] at e
  obtain ⟨u, e1, w, e2, e⟩ := e
  split at e
  · rename_i h; cases e
    rw [Bool.and_eq_true] at h
    exact ⟨u, w, Rep.dp S.fh rx e1, Rep.dp S.fh ry e2, h.1, h.2, q⟩
  · cases e
theorem lt_ok (hu : X.A.units < cLine) : ∃ r, OpR X (compareOp .Lt) r ∧ Cm2 X.K CA r ltD := by
  refine ⟨_, OpR.or op_lt (OpR.or (op_ltT hu) op_lt_str), ?_⟩
  intro W σ H env obs x y a b k Q S rx ry e q
  unfold ltD at e
  split at e
  · cases e; cases rx; cases ry
    exact .inl ⟨_, _, rfl, rfl, q⟩
  · simp only [Option.bind_eq_bind, Option.bind_eq_some_iff] at e
    obtain ⟨u, e1, w, e2, e⟩ := e
    cases e
    cases intsD_some e1; cases intsD_some e2
    obtain ⟨p, vs, rfl, h1, r1⟩ := S.tup rx
    obtain ⟨p2, us, rfl, h2, r2⟩ := S.tup ry
    rw [r1.to_ints] at h1; rw [r2.to_ints] at h2
    exact .inr (.inl ⟨p, p2, u, w, rfl, rfl, h1, h2, q⟩)
  · cases e; cases rx; cases ry
    exact .inr (.inr ⟨_, _, rfl, rfl, q⟩)
  · cases e
theorem le_ok : ∃ r, OpR X (compareOp .LtE) r ∧ Cm2 X.K CA r leD := by
  refine ⟨_, op_le, ?_⟩
  intro W σ H env obs x y a b k Q S rx ry e q
  unfold leD at e
  split at e
  · cases e; cases rx; cases ry
    exact ⟨_, _, rfl, rfl, q⟩
  · cases e
theorem gt_ok : ∃ r, OpR X (compareOp .Gt) r ∧ Cm2 X.K CA r (cmpD .Gt) := by
  refine ⟨_, op_gt, ?_⟩
  intro W σ H env obs x y a b k Q S rx ry e q
  unfold cmpD at e
  simp only at e
  split at e
  · cases e; cases rx; cases ry
    exact ⟨_, _, rfl, rfl, q⟩
  · cases e
theorem ge_ok : ∃ r, OpR X (compareOp .GtE) r ∧ Cm2 X.K CA r (cmpD .GtE) := by
  refine ⟨_, op_ge, ?_⟩
  intro W σ H env obs x y a b k Q S rx ry e q
  unfold cmpD at e
  simp only at e
  split at e
  · cases e; cases rx; cases ry
    exact ⟨_, _, rfl, rfl, q⟩
  · cases e
def rInDT (K : PySem.W.Frag) (neg : Bool) : R2 := fun x y H Q => ∃ d ds, Dp K H x d ∧ Dp K H y (.tuple ds) ∧ SeqAt.shaped d = true ∧ SeqAt.shaped (.tuple ds) = true ∧ Q (.bl (if neg then !(ds.any fun z => PyData.eqv z d) else ds.any fun z => PyData.eqv z d)) H
theorem op_inDT (hu : X.A.units + 65 < cLine) : OpR X (compareOp .In) (rInDT X.K false) := by
  intro pins s σ H x y v u Q I rx ry h
  obtain ⟨d, ds, hd, he, sd, se, q⟩ := h
  obtain ⟨as, r1⟩ := Dp.reads I d x v hd rx
  obtain ⟨bs, r2⟩ := Dp.reads I (.tuple ds) y u he ry
  exact SeqAt.in_tuple_reads r2 r1 (SeqAt.canLay_of_shaped se) (SeqAt.canLay_of_shaped sd) (room_in_shaped sd hu) ⟨.bl _, H, I, rfl, q⟩
theorem op_notInDT (hu : X.A.units + 65 < cLine) : OpR X (compareOp .NotIn) (rInDT X.K true) := by
  intro pins s σ H x y v u Q I rx ry h
  obtain ⟨d, ds, hd, he, sd, se, q⟩ := h
  obtain ⟨as, r1⟩ := Dp.reads I d x v hd rx
  obtain ⟨bs, r2⟩ := Dp.reads I (.tuple ds) y u he ry
  exact SeqAt.notIn_tuple_reads r2 r1 (SeqAt.canLay_of_shaped se) (SeqAt.canLay_of_shaped sd) (room_in_shaped sd hu) ⟨.bl _, H, I, rfl, q⟩
theorem in_ok0 {neg : Bool} {W : Wd} {σ : L2.St} {H : Hp} {env : Env} {obs : Obs} {x y : V} {a b : D} {k : Bool} {Q : V → Hp → Prop} (S : SRel X.K CA W σ H env obs) (rx : W.rep X.K x a) (ry : W.rep X.K y b) (e : inD a b = some k) (q : Q (.bl (if neg then !k else k)) H) :
    rIn X.K neg x y H Q ∨ rInDT X.K neg x y H Q := by
  unfold inD at e
  split at e
  · rename_i ds
    split at e
    · rename_i h; cases e
      rw [Bool.and_eq_true] at h
      obtain ⟨p2, us, rfl, h2, r2⟩ := S.tup ry
      exact .inl ⟨p2, us, rfl, .inr h2, rx.flat h.1, r2.flat h.2, by rw [Reps.inv rx h.1 r2 h.2]; exact q⟩
    · simp only [inDeep, Option.bind_eq_bind, Option.bind_eq_some_iff] at e
      obtain ⟨u, e1, w, e2, e⟩ := e
      split at e
      · rename_i h; cases e
        rw [Bool.and_eq_true] at h
        have e3 : toP (.tup ds) = some (.tuple w) := by simp only [toP, e2, Option.map_some]
        exact .inr ⟨u, w, Rep.dp S.fh rx e1, Rep.dp S.fh ry e3, h.1, h.2, q⟩
      · cases e
  · split at e
    · rename_i h; cases e
      rw [Bool.and_eq_true] at h
      obtain ⟨p2, us, rfl, h2, r2⟩ := S.lst ry
      exact .inl ⟨p2, us, rfl, .inl (SqL.of h2), rx.flat h.1, r2.flat h.2, by rw [Reps.inv rx h.1 r2 h.2]; exact q⟩
    · cases e
  · cases e
theorem in_ok (hu : X.A.units + 65 < cLine) : ∃ r, OpR X (compareOp .In) r ∧ Cm2 X.K CA r inD :=
  ⟨_, OpR.or op_in_seq (op_inDT hu), fun W σ H env obs x y a b k Q S rx ry e q => in_ok0 S rx ry e q⟩
theorem notIn_ok (hu : X.A.units + 65 < cLine) : ∃ r, OpR X (compareOp .NotIn) r ∧ Cm2 X.K CA r (fun a b => (inD a b).map (!·)) :=
  ⟨_, OpR.or op_notIn_seq (op_notInDT hu), fun W σ H env obs x y a b k Q S rx ry e q => by
    simp only [Option.map_eq_some_iff] at e
    obtain ⟨k', e, rfl⟩ := e
    exact in_ok0 S rx ry e q⟩
theorem is_ok : ∃ r, OpR X (compareOp .Is) r ∧ Cm2 X.K CA r (cmpD .Is) := by
  refine ⟨_, OpR.or op_isN op_isBl, ?_⟩
  intro W σ H env obs x y a b k Q S rx ry e q
  unfold cmpD at e
  simp only at e
  split at e
  · cases e; cases rx; cases ry; exact .inl ⟨rfl, q⟩
  · rename_i hn
    cases e; cases ry
    refine .inl ⟨rfl, ?_⟩
    rw [rx.non_iff]
    split
    · rename_i z; exact absurd rfl hn
    · exact q
  · cases e; cases rx; cases ry; exact .inr ⟨_, _, rfl, rfl, q⟩
  · cases e
theorem isNot_ok : ∃ r, OpR X (compareOp .IsNot) r ∧ Cm2 X.K CA r (cmpD .IsNot) := by
  refine ⟨_, OpR.or op_notN op_notBl, ?_⟩
  intro W σ H env obs x y a b k Q S rx ry e q
  unfold cmpD at e
  simp only at e
  split at e
  · cases e; cases rx; cases ry; exact .inl ⟨rfl, q⟩
  · rename_i hn
    cases e; cases ry
    refine .inl ⟨rfl, ?_⟩
    rw [rx.non_iff]
    split
    · rename_i z; exact absurd rfl hn
    · exact q
  · cases e; cases rx; cases ry; exact .inr ⟨_, _, rfl, rfl, q⟩
  · cases e
theorem cmp_ok (hu : X.A.units + 65 < cLine) : ∀ op : CmpOp, ∃ r, OpR X (compareOp op) r ∧ Cm2 X.K CA r (cmpD op)
  | .Eq => eq_ok (by omega)
  | .NotEq => ne_ok (by omega)
  | .Lt => lt_ok (by omega)
  | .LtE => le_ok
  | .Gt => gt_ok
  | .GtE => ge_ok
  | .Is => is_ok
  | .IsNot => isNot_ok
  | .In => in_ok hu
  | .NotIn => notIn_ok hu
end
end Mp

set_option Elab.async false
set_option linter.all false
set_option maxRecDepth 100000
set_option maxHeartbeats 4000000
/-! Two rules of the model for tuples: read from behind, and taken so many times. -/
namespace Mp
open PySem PySem.Spec PyProof.Rows L2 HT

section
variable {prog : Program} {w : World} {A : Around} {E : Value → Shared → Prop} {s : Shared}
theorem sliceApplied_back {sl : Addr} {vs : Value} {n : Nat} {Q : Int × Int × Nat → Shared → Prop} (hs : s.heap.IsSliceOf sl .none .none vs) (pl : IsPart vs (some (-1)))
    (h : Q ((n : Int) - 1, -1, n) s) : wpAny (model prog w) A (Builtin.Slice.sliceApplied (.ref sl) (pure (n : Int))) Q E s := by
  obtain ⟨os, hos, hcs, hds⟩ := id hs
  unfold Builtin.Slice.sliceApplied Builtin.Slice.sliceFields
  refine wpAny_bind (wpAny_bind (wpAny_field hos hds (x := .none) rfl (wpAny_bind (wpAny_field hos hds (x := .none) rfl (wpAny_bind (wpAny_field hos hds (x := vs) rfl (wpAny_pure ?_)))))))
  refine wpAny_bind (slicePart_ pl ?_)
  show wpAny _ _ (if ((-1 : Int) == 0) = true then _ else _) _ _ s
  rw [if_neg (by decide)]
  refine wpAny_bind (slicePart_none (wpAny_bind (slicePart_none (wpAny_bind (wpAny_pure ?_)))))
  show wpAny _ _ (match Builtin.Slice.sliceAdjust none none (-1) (n : Int) with | (lo, hi) => pure (lo, (-1 : Int), Builtin.Slice.slicePlaces lo hi (-1))) _ _ s
  have e1 : Builtin.Slice.sliceAdjust none none (-1) (n : Int) = ((n : Int) - 1, -1) := by
    unfold Builtin.Slice.sliceAdjust
    simp
  rw [e1]
  have e2 : Builtin.Slice.slicePlaces ((n : Int) - 1) (-1) (-1) = n := by
    unfold Builtin.Slice.slicePlaces
    simp
    split
    · omega
    · omega
  show wpAny _ _ (pure ((n : Int) - 1, (-1 : Int), Builtin.Slice.slicePlaces ((n : Int) - 1) (-1) (-1))) _ _ s
  rw [e2]
  exact wpAny_pure h
theorem fm_congr {α β : Type} {f g : α → Option β} : ∀ {l : List α}, (∀ a ∈ l, f a = g a) → l.filterMap f = l.filterMap g
  | [], _ => rfl
  | a :: l, h => by
    rw [List.filterMap_cons, List.filterMap_cons, h a List.mem_cons_self, fm_congr fun b hb => h b (List.mem_cons_of_mem _ hb)]
theorem pick_back (xs : Array Value) : ((List.range xs.size).filterMap fun (m : Nat) => xs[(((xs.size : Int) - 1) + (m : Int) * -1).toNat]?).toArray = xs.toList.reverse.toArray := by
  have e : ∀ m ∈ List.range xs.size, xs[(((xs.size : Int) - 1) + (m : Int) * -1).toNat]? = (fun (m : Nat) => xs[xs.size - 1 - m]?) m := by
    intro m hm
    have := List.mem_range.mp hm
    have : (((xs.size : Int) - 1) + (m : Int) * -1).toNat = xs.size - 1 - m := by omega
    rw [this]
  rw [fm_congr e]
  congr 1
  have e2 : (fun (m : Nat) => xs[xs.size - 1 - m]?) = (fun i => xs[i]?) ∘ (fun m => xs.size - 1 - m) := rfl
  rw [e2, ← List.filterMap_map, PySem.W.krv_range, List.filterMap_reverse, PySem.W.krv_all]
theorem getItem_tuple_back {t sl : Addr} {items : Array Value} {vs : Value} {Q : Value → Shared → Prop} (ht : IsTup s.heap t items) (hs : s.heap.IsSliceOf sl .none .none vs) (pl : IsPart vs (some (-1)))
    (h : Q (.ref s.heap.objs.size) { s with heap := s.heap.push { cls := .type "tuple", data := .seq items.toList.reverse.toArray } })
    (hsz : items.size ≤ sizeLine) : wpAny (model prog w) A (getItem (.ref t) (.ref sl)) Q E s := by
  have htake : sizeOk (.seq items.toList.reverse.toArray) := by
    show items.toList.reverse.toArray.size ≤ sizeLine
    rw [List.size_toArray, List.length_reverse, Array.length_toList]
    exact hsz
  obtain ⟨os, hos, hcs, hds⟩ := id hs
  have hTs : s.TypeIs (.ref sl) "slice" := ⟨os, hos, hcs⟩
  unfold getItem
  try with_reducible refine wpAny_holding ?_
  first | refine wpAny_bind (wpAny_pure ?_) | skip
  refine wpAny_bind (wpAny_sequenceKey ht.typeIs (by decide) ?_)
  refine wpAny_bind (wpAny_callSpecial?_slot (name := Str.ofString "__getitem__") ht.typeIs PyProof.Rows.slot_tuple_getitem
    (wpAny_call_entry PyProof.Rows.slot_tuple_getitem ht.typeIs entry_tuple_getitem ?_ (args_tuple_getitem _ _)))
  show wpAny _ _ (Builtin.Tuple.tupleItemsOf (.ref t) >>= _) _ _ s
  refine wpAny_bind (tupleItemsOf_ ht ?_)
  refine wpAny_bind (wpAny_typeOf hTs ?_)
  rw [if_pos (by decide)]
  refine wpAny_bind (sliceApplied_back hs pl ?_)
  have hno : ¬ ((((items.size : Int) - 1) == 0 && (-1 : Int) == 1 && items.size == items.size) = true) := by
    intro q
    rw [Bool.and_eq_true, Bool.and_eq_true] at q
    have q1 : (-1 : Int) = 1 := eq_of_beq q.1.2
    omega
  show wpAny _ _ (if (((items.size : Int) - 1) == 0 && (-1 : Int) == 1 && items.size == items.size) = true then _ else _) _ _ s
  rw [if_neg hno, pick_back]
  first
    | exact wpAny_bind (m := Builtin.Tuple.tupleExact _) (wpAny_newObj_type (wpAny_pure ⟨_, rfl, wpAny_pure h⟩) htake)
    | exact wpAny_bind (m := Builtin.Tuple.tupleExact _) (wpAny_newObj_type (wpAny_bind (wpAny_pure (wpAny_pure ⟨_, rfl, wpAny_pure h⟩))) htake)
    | exact wpAny_bind (wpAny_bind (m := Builtin.Tuple.tupleExact _) (wpAny_newObj_type (wpAny_pure (wpAny_pure ⟨_, rfl, wpAny_pure h⟩)) htake))
    | exact wpAny_bind (wpAny_bind (m := Builtin.Tuple.tupleExact _) (wpAny_newObj_type (wpAny_pure ⟨_, rfl, wpAny_pure h⟩) htake))

theorem tuple_mul1 (l : Addr) (items : Array Value) (n : Nat) (dd : Option Addr) (sl : Array (Option Value)) (x : Int) (u : Tok) (c0 : (decide (x < -(2 ^ 63)) || decide (x ≥ 2 ^ 63)) = false) (c1 : (items.isEmpty || x == 1) = true) :
    Meets (Builtin.«tuple.__mul__» ⟨[.ref l, .int x u], []⟩) (fun _ R s => s.heap.get? l = some { cls := .type "tuple", dict := dd, data := .seq items n, slots := sl } ∧ R (.ok (.ret (Value.ref l))) s) :=
  .of_wp fun prog w A R s h => by
    obtain ⟨hp, g, d, tk, os⟩ := s
    obtain ⟨hl, h⟩ := h
    have f1 := AutoSeq1.idx_int
    wp_walk using wpAny_loadPart' hl
    repeat (first
      | (refine wpAny_ite_false (decide_eq_false (by rw [c0]; exact Bool.false_ne_true)) ?_; wp_walk using wpAny_loadPart' hl)
      | (refine wpAny_ite_true (decide_eq_true (by rw [c1])) ?_; wp_walk using wpAny_loadPart' hl))
    exact ⟨_, rfl, h⟩
theorem tuple_mul0 (l : Addr) (items : Array Value) (n : Nat) (dd : Option Addr) (sl : Array (Option Value)) (x : Int) (u : Tok) (c0 : (decide (x < -(2 ^ 63)) || decide (x ≥ 2 ^ 63)) = false) (c1 : (items.isEmpty || x == 1) = false) (c2 : (decide (x ≤ 0) || items.isEmpty) = true) :
    Meets (Builtin.«tuple.__mul__» ⟨[.ref l, .int x u], []⟩) (fun _ R s => s.heap.get? l = some { cls := .type "tuple", dict := dd, data := .seq items n, slots := sl } ∧
      R (.ok (.ret (Value.ref s.heap.objs.size))) { s with heap := s.heap.push { cls := Value.type "tuple", data := Data.seq #[] }, toks := s.toks }) :=
  .of_wp fun prog w A R s h => by
    obtain ⟨hp, g, d, tk, os⟩ := s
    obtain ⟨hl, h⟩ := h
    have f1 := AutoSeq1.idx_int
    wp_walk using wpAny_loadPart' hl
    repeat (first
      | (refine wpAny_ite_false (decide_eq_false (by rw [c0]; exact Bool.false_ne_true)) ?_; wp_walk using wpAny_loadPart' hl)
      | (refine wpAny_ite_false (decide_eq_false (by rw [c1]; exact Bool.false_ne_true)) ?_; wp_walk using wpAny_loadPart' hl)
      | (refine wpAny_ite_true (decide_eq_true (by rw [c2])) ?_; wp_walk using wpAny_loadPart' hl))
    exact ⟨_, rfl, h⟩
end
section
variable {X : Cx}
def rRepA (K : PySem.W.Frag) : R2 := fun x y H Q => ∃ l k xs, x = .ref l ∧ y = .int k ∧ SqT K H l xs ∧ -(2 ^ 63) ≤ k ∧ k < 2 ^ 63 ∧ xs.length * k.toNat ≤ 1000000 ∧
  ((xs = [] ∨ k = 1) → Q (.ref l) H) ∧ (¬ (xs = [] ∨ k = 1) → ∀ p, H p = none → Q (.ref p) (upd H p (.tup (List.replicate k.toNat xs).flatten)))
theorem op_repA : OpR X (binaryOp .Mult) (rRepA X.K) := by
  intro pins s σ H x y v u Q I rx ry h
  obtain ⟨l, k, xs, rfl, rfl, hT, h1, h2, hz, qs, qn⟩ := h
  cases rx
  obtain ⟨t, rfl⟩ := ry
  obtain ⟨its, r, ⟨⟨cls, dd, data, sl⟩, ho, hc, n, hd⟩, hs⟩ := I.tuple hT
  simp only at hc hd
  subst hc hd
  have hle : its.length = xs.length := r.length.symm
  have c0 : (decide (k < -(2 ^ 63)) || decide (k ≥ 2 ^ 63)) = false := by
    rw [decide_eq_false (by omega), decide_eq_false (by omega)] <;> rfl
  have hi : its.toArray.isEmpty = true ↔ xs = [] := by
    cases its with
    | nil => cases xs with
      | nil => simp
      | cons _ _ => simp at hle
    | cons a b => cases xs with
      | nil => simp at hle
      | cons _ _ => simp
  have road : ∀ {Q' : Value → Shared → Prop} {C : Around → (Result → Shared → Prop) → Shared → Prop}, Meets (Builtin.«tuple.__mul__» ⟨[.ref l, .int k t], []⟩) C →
      (∀ A R s', s' = s → (∀ u s2, R (.ok (.ret u)) s2 = Q' u s2) → C A R s') → True := fun _ _ => trivial
  by_cases hsame : xs = [] ∨ k = 1
  · have c1 : (its.toArray.isEmpty || k == 1) = true := by
      rcases hsame with e | e
      · rw [hi.mpr e]; rfl
      · subst e; simp
    refine wpAny_binaryOp_repeat_ref (T := "tuple") (U := "int") (by decide) ⟨_, ho, rfl⟩ (fun s' => typeIs_int s' k t) noFill_tuple_mul F.fills_int_mul F.slot_int_rmul repeat_tuple F.slot_int_index.lookup
      (call_meets F.slot_int_rmul (typeIs_int s k t) F.entry_int_rmul (F.args_int_rmul_2 _ _) (int_rmul_tuple k t l its.toArray n dd sl)
        ⟨ho, rfl, ⟨_, ho, rfl⟩, call_meets F.slot_tuple_mul ⟨_, ho, rfl⟩ F.entry_tuple_mul (F.args_tuple_mul_2 _ _) (tuple_mul1 l its.toArray n dd sl k t c0 c1) ⟨ho, ?_⟩⟩)
    exact ⟨.ref l, H, I, rfl, qs hsame⟩
  · have c1 : (its.toArray.isEmpty || k == 1) = false := by
      have a1 : its.toArray.isEmpty = false := by
        cases q : its.toArray.isEmpty with
        | false => rfl
        | true => exact absurd (.inl (hi.mp q)) hsame
      rw [a1, Bool.false_or]
      exact beq_eq_false_iff_ne.mpr fun e => hsame (.inr e)
    have a1 : its.toArray.isEmpty = false := (Bool.or_eq_false_iff.mp c1).1
    by_cases h0 : k ≤ 0
    · have c2 : (decide (k ≤ 0) || its.toArray.isEmpty) = true := by rw [decide_eq_true h0]; rfl
      refine wpAny_binaryOp_repeat_ref (T := "tuple") (U := "int") (by decide) ⟨_, ho, rfl⟩ (fun s' => typeIs_int s' k t) noFill_tuple_mul F.fills_int_mul F.slot_int_rmul repeat_tuple F.slot_int_index.lookup
        (call_meets F.slot_int_rmul (typeIs_int s k t) F.entry_int_rmul (F.args_int_rmul_2 _ _) (int_rmul_tuple k t l its.toArray n dd sl)
          ⟨ho, rfl, ⟨_, ho, rfl⟩, call_meets F.slot_tuple_mul ⟨_, ho, rfl⟩ F.entry_tuple_mul (F.args_tuple_mul_2 _ _) (tuple_mul0 l its.toArray n dd sl k t c0 c1 c2) ⟨ho, ?_⟩⟩)
      have hk : k.toNat = 0 := by omega
      have := qn hsame s.heap.objs.size (I.hok.fresh (Nat.le_refl _))
      rw [hk, List.replicate_zero, List.flatten_nil] at this
      exact ⟨.ref s.heap.objs.size, _, I.laid (t' := s.toks) (o := .tup []) (fun b ob q => Heap.get?_push_of_some _ q) (Nat.le_refl _) ⟨Nat.zero_le _, _, .nil, IsTup.new _ _⟩, rfl, this⟩
    · have c2 : (decide (k ≤ 0) || its.toArray.isEmpty) = false := by rw [a1, decide_eq_false h0]; rfl
      have hsz0 : its.toArray.size = xs.length := by rw [List.size_toArray, hle]
      have hm : ((its.toArray.size : Nat) : Int) * k ≤ 1000000 := by
        rw [hsz0]
        have e : (((xs.length * k.toNat : Nat)) : Int) = (xs.length : Int) * k := by rw [Int.natCast_mul, Int.toNat_of_nonneg (by omega)]
        omega
      have flen : (List.replicate k.toNat its).flatten.length ≤ sizeLine := by
        rw [PyProof.Rows.lm_len_rep_flat, hle, sizeLine_eq, Nat.mul_comm]
        omega
      have c4 : Builtin.Tuple.tupleTooMany (((its.toArray.size : Nat) : Int) * k) = false := by
        unfold Builtin.Tuple.tupleTooMany
        rw [sizeLine_eq]
        exact decide_eq_false (by omega)
      refine wpAny_binaryOp_repeat_ref (T := "tuple") (U := "int") (by decide) ⟨_, ho, rfl⟩ (fun s' => typeIs_int s' k t) noFill_tuple_mul F.fills_int_mul F.slot_int_rmul repeat_tuple F.slot_int_index.lookup
        (call_meets F.slot_int_rmul (typeIs_int s k t) F.entry_int_rmul (F.args_int_rmul_2 _ _) (int_rmul_tuple k t l its.toArray n dd sl)
          ⟨ho, rfl, ⟨_, ho, rfl⟩, call_meets F.slot_tuple_mul ⟨_, ho, rfl⟩ F.entry_tuple_mul (F.args_tuple_mul_2 _ _) (tuple_mulW l its.toArray n dd sl k t c0 c1 c2 (by omega) c4 (by rw [size_rep, List.size_toArray]; exact flen)) ⟨ho, ?_⟩⟩)
      rw [size_rep]
      refine ⟨.ref s.heap.objs.size, _, I.laid (t' := s.toks) (o := .tup (List.replicate k.toNat xs).flatten) (fun b ob q => Heap.get?_push_of_some _ q) (Nat.le_refl _) ?_, rfl, qn hsame _ (I.hok.fresh (Nat.le_refl _))⟩
      exact ⟨by rw [PyProof.Rows.lm_len_rep_flat, sizeLine_eq, Nat.mul_comm]; omega, _, r.rep k.toNat, IsTup.new _ _⟩
/-- e[::-1] of a list or a tuple -/
def tRevA (K : PySem.W.Frag) (te : TE) : TE := fun σ H Q => te σ H fun x H1 => ∃ a xs, x = .ref a ∧ ((SqL K H1 a xs ∧ ∀ p, H1 p = none → Q (.ref p) (upd H1 p (.lst xs.reverse))) ∨ (SqT K H1 a xs ∧ ∀ p, H1 p = none → Q (.ref p) (upd H1 p (.tup xs.reverse))))
theorem pe_revA {e : Expr} {te : TE} {k : Nat} {p1 p2 p3 pos : Pos} (he : PE X e te) : PE X (.Subscript e (.Slice none none (some (.UnaryOp .USub (.Constant (.int 1) k p1) p2)) p3) pos) (tRevA X.K te) := by
  refine ⟨fun pins s σ H Q I h => ?_⟩
  refine Subscript_ (thn (he.run pins s σ H _ I h) fun v s1 ⟨x, H1, I1, r1, q1⟩ => ?_)
  obtain ⟨a, xs, ex, hx⟩ := q1
  subst ex
  cases r1
  have hst : PO X (some (.UnaryOp .USub (.Constant (.int 1) k p1) p2)) (tPart (tUn (rU fun i => .int (-i)) (tC (.int 1)))) := po_some (pe_un un_neg pe_int)
  refine wpAny_Slice (thn (po_none.run pins s1 σ H1 (fun o H2 => o = none ∧ H2 = H1) I1 ⟨rfl, rfl⟩) fun vl s2 ⟨l, H2, I2, pl, el, e2⟩ => ?_)
  subst el e2
  refine thn (po_none.run pins s2 σ H2 (fun o H3 => o = none ∧ H3 = H2) I2 ⟨rfl, rfl⟩) fun vu s3 ⟨u, H3, I3, pu, eu, e3⟩ => ?_
  subst eu e3
  refine thn (hst.run pins s3 σ H3 (fun o H4 => o = some (-1) ∧ H4 = H3) I3 ⟨1, rfl, -1, rfl, rfl, rfl⟩) fun vs s4 ⟨o, H4, I4, ps, eo, e4⟩ => ?_
  subst eo e4
  have I5 : Inv X pins σ H4 { s4 with heap := s4.heap.push { cls := .type "slice", data := .fields #[vl, vu, vs] } } := I4.kept (t' := s4.toks) fun b ob q => Heap.get?_push_of_some _ q
  show wpAny (model X.prog X.w) X.A (subscriptTail e (.Slice none none (some (.UnaryOp .USub (.Constant (.int 1) k p1) p2)) p3) (.ref a) (.ref s4.heap.objs.size)) (EP X pins σ Q) X.xe { s4 with heap := s4.heap.push { cls := .type "slice", data := .fields #[vl, vu, vs] } }
  rcases hx with ⟨hx, q⟩ | ⟨hx, q⟩
  · obtain ⟨its, r, ht, hz⟩ := I5.list hx
    have hlen := r.length
    refine tail_any (ops := [.ref a, .ref s4.heap.objs.size]) ht.isList.typeIs (PySem.slot_list_getitem.lookup) ?_ (by with_unfolding_all rfl)
    refine wpAny_getItem_list_slice ht.isList (Heap.IsSliceOf.new _ vl vu vs) pl pu ps (by decide) ?_ (by rw [List.size_toArray]; omega)
    rw [PySem.W.krv_pick]
    refine ⟨.ref _, _, I5.laid (t' := s4.toks) (o := .lst xs.reverse) (fun b ob q => Heap.get?_push_of_some _ q) (Nat.le_refl _) ?_, rfl, q _ (I5.hok.fresh (Nat.le_refl _))⟩
    exact ⟨by rw [List.length_reverse]; exact hz, _, 0, r.reverse, Heap.get?_push_size _ rfl⟩
  · obtain ⟨its, r, ht, hz⟩ := I5.tuple hx
    have hlen := r.length
    cases pl
    cases pu
    refine tail_any (ops := [.ref a, .ref s4.heap.objs.size]) ht.typeIs (PyProof.Rows.slot_tuple_getitem.lookup) ?_ (by with_unfolding_all rfl)
    refine getItem_tuple_back ht (Heap.IsSliceOf.new _ .none .none vs) ps ?_ (by rw [List.size_toArray]; omega)
    refine ⟨.ref _, _, I5.laid (t' := s4.toks) (o := .tup xs.reverse) (fun b ob q => Heap.get?_push_of_some _ q) (Nat.le_refl _) ?_, rfl, q _ (I5.hok.fresh (Nat.le_refl _))⟩
    exact ⟨by rw [List.length_reverse]; exact hz, _, r.reverse, IsTup.new _ _⟩
end
end Mp

set_option Elab.async false
set_option linter.all false
set_option maxRecDepth 100000
/-! More calls of the model: the least of a tuple, a set of a list of numbers. -/
namespace Mp
open PySem PySem.Spec PyProof.Rows L2

section
variable {prog : Program} {w : World} {A : Around} {E : Value → Shared → Prop} {s : Shared} {l : Addr} {xs : Array (Int × Tok)}
theorem iter_tupI {Q : Value → Shared → Prop} (hl : s.heap.IsTuple l (intItems xs))
    (h : ∀ s2 : Shared, s2 = { s with heap := s.heap.push { cls := .type "tuple_iterator", data := .fields #[.ref l, .int 0 0] } } →
      (s2.heap.IsTupleIter s.heap.objs.size l 0 ∧ s2.heap.IsTuple l (intItems xs)) → (∀ b ∈ [s.heap.objs.size, l], b < s2.heap.objs.size) → l ≠ s.heap.objs.size → Q (.ref s.heap.objs.size) s2) :
    wpAny (model prog w) A (pyIter (.ref l)) Q E s := by
  have hlt : l < s.heap.objs.size := by obtain ⟨_, e, _⟩ := hl; exact Heap.lt_size e
  refine wpAny_pyIter_tuple hl (h _ rfl ⟨⟨_, Heap.get?_push_size _ rfl, rfl, rfl⟩, hl.push _⟩ (fun b hb => ?_) (Nat.ne_of_lt hlt))
  show b < (s.heap.push _).objs.size
  rw [Heap.size_push]
  simp only [List.mem_cons, List.not_mem_nil, or_false] at hb
  rcases hb with e | e
  · rw [e]; exact Nat.lt_succ_self _
  · rw [e]; exact Nat.lt_succ_of_lt hlt
theorem old_keptT {h' : Heap} (hk : ∀ b o, b ∉ [s.heap.objs.size] → (s.heap.push { cls := .type "tuple_iterator", data := .fields #[.ref l, .int 0 0] }).get? b = some o → h'.get? b = some o) :
    ∀ b o, s.heap.get? b = some o → h'.get? b = some o := fun b o e => by
  refine hk b o (fun hm => ?_) (Heap.get?_push_of_some _ e)
  have h1 := Heap.lt_size e
  simp only [List.mem_cons, List.not_mem_nil, or_false] at hm
  exact absurd (hm ▸ h1) (Nat.lt_irrefl _)
theorem min_tupI {Q : Value → Shared → Prop} (hh : A.handled = none) (hl : s.heap.IsTuple l (intItems xs)) (hne : 0 < xs.size)
    (h : ∀ v h' tk, (intItems xs)[argBest (fun i j => decide (numAt xs i < numAt xs j)) (xs.size - 1)]? = some v → (∀ b o, s.heap.get? b = some o → h'.get? b = some o) → Q v { s with heap := h', toks := tk }) :
    wpAny (model prog w) A (call (.builtin "min") [.ref l]) Q E s := by
  refine call_min_walk (iter_tupI hl fun s2 e st hfp hlI => ?_)
  subst e
  refine ⟨_, _, _, _, _, _, _, rfl, Walks.tuple (A := A.in1) hh _ l hlI (intItems xs), st, hfp, by simpa [intItems] using hne, CmpOf.ints_lt (numAt xs) (fun _ _ => intItems_at), fun v h' tk hP hk => ?_⟩
  exact h v h' tk (by simpa [intItems] using hP) (old_keptT hk)
theorem max_tupI {Q : Value → Shared → Prop} (hh : A.handled = none) (hl : s.heap.IsTuple l (intItems xs)) (hne : 0 < xs.size)
    (h : ∀ v h' tk, (intItems xs)[argBest (fun i j => decide (numAt xs i > numAt xs j)) (xs.size - 1)]? = some v → (∀ b o, s.heap.get? b = some o → h'.get? b = some o) → Q v { s with heap := h', toks := tk }) :
    wpAny (model prog w) A (call (.builtin "max") [.ref l]) Q E s := by
  refine call_max_walk (iter_tupI hl fun s2 e st hfp hlI => ?_)
  subst e
  refine ⟨_, _, _, _, _, _, _, rfl, Walks.tuple (A := A.in1) hh _ l hlI (intItems xs), st, hfp, by simpa [intItems] using hne, CmpOf.ints_gt (numAt xs) (fun _ _ => intItems_at), fun v h' tk hP hk => ?_⟩
  exact h v h' tk (by simpa [intItems] using hP) (old_keptT hk)
variable {its : List Value} {ns : List Int}
theorem min_rawT {Q : Value → Shared → Prop} (hh : A.handled = none) (hl : s.heap.IsTuple l its.toArray) (hi : IntsAre its ns) (hne : 0 < ns.length)
    (h : ∀ h' tk M t', (∀ b o, s.heap.get? b = some o → h'.get? b = some o) → M ∈ ns → (∀ a, a ∈ ns → M ≤ a) → Q (.int M t') { s with heap := h', toks := tk }) : wpAny (model prog w) A (call (.builtin "min") [.ref l]) Q E s := by
  obtain ⟨xs, e⟩ := hi.allInts.items
  have hn : numsOf (intItems xs).toList = ns := by rw [← e]; exact hi.numsOf
  rw [nums_intItems] at hn
  subst hn
  rw [e] at hl
  have hsz : 0 < xs.size := by simpa using hne
  refine min_tupI hh hl hsz fun v h' tk hv hk => ?_
  obtain ⟨t, rfl⟩ := intItems_at hv
  obtain ⟨h1, h2⟩ := argBest_lt (numAt xs) (xs.size - 1)
  refine h h' tk _ t hk ?_ fun a ha => ?_
  · rw [numAt_eq]; exact PySem.getD_mem (by rw [List.length_map, Array.length_toList]; omega)
  · obtain ⟨j, hj, rfl⟩ := mem_getD ha
    rw [List.length_map, Array.length_toList] at hj
    rw [← numAt_eq]; exact h2 j (by omega)
theorem max_rawT {Q : Value → Shared → Prop} (hh : A.handled = none) (hl : s.heap.IsTuple l its.toArray) (hi : IntsAre its ns) (hne : 0 < ns.length)
    (h : ∀ h' tk M t', (∀ b o, s.heap.get? b = some o → h'.get? b = some o) → M ∈ ns → (∀ a, a ∈ ns → a ≤ M) → Q (.int M t') { s with heap := h', toks := tk }) : wpAny (model prog w) A (call (.builtin "max") [.ref l]) Q E s := by
  obtain ⟨xs, e⟩ := hi.allInts.items
  have hn : numsOf (intItems xs).toList = ns := by rw [← e]; exact hi.numsOf
  rw [nums_intItems] at hn
  subst hn
  rw [e] at hl
  have hsz : 0 < xs.size := by simpa using hne
  refine max_tupI hh hl hsz fun v h' tk hv hk => ?_
  obtain ⟨t, rfl⟩ := intItems_at hv
  obtain ⟨h1, h2⟩ := argBest_gt (numAt xs) (xs.size - 1)
  refine h h' tk _ t hk ?_ fun a ha => ?_
  · rw [numAt_eq]; exact PySem.getD_mem (by rw [List.length_map, Array.length_toList]; omega)
  · obtain ⟨j, hj, rfl⟩ := mem_getD ha
    rw [List.length_map, Array.length_toList] at hj
    rw [← numAt_eq]; exact h2 j (by omega)
end
section
variable {P : Program} {w : World} {A : Around} {E : Value → Shared → Prop} {s : Shared}
/-- what stands behind set(xs): numbers of a list -/
abbrev newSetObj (w : World) : Obj := { cls := .type "set", dict := none, data := .set #[] 0 (.fresh 0 0 (!w.params.followText "set-order")) }
set_option maxHeartbeats 3200000 in
theorem set_of_list {q : Addr} {its : Array Value} (ks : List Int) {Q : Value → Shared → Prop} (ha : A.handled = none) (hq : s.heap.IsList q its) (hi : IntsAre its.toList ks) (hs : ks.length + 1 < scanBound)
    (h : ∀ (h' : Heap) (tk c : Nat), SetR w h' s.heap.objs.size (fun j => decide (j ∈ ks)) c → c ≤ ks.length → (∀ b o, s.heap.get? b = some o → h'.get? b = some o) → Q (.ref s.heap.objs.size) { s with heap := h', toks := tk }) :
    wpAny (model P w) A (call (.type "set") [.ref q]) Q E s := by
  have hlen : its.size = ks.length := by
    have z := IntsAre.length hi
    rwa [Array.length_toList] at z
  have f0 := F.called_set.mro
  obtain ⟨c0, tl0, f0⟩ := f0
  have f1 := F.called_set.made
  have f2 := F.called_set.sub
  have f3 := F.called_set.notType
  have f4 := F.called_set.canCreate
  have f5 := F.typeCall_set_1 (.ref q)
  refine wpAny_call (codeAny_of_tree ?_)
  show wpAny _ _ (callAny (.type "set") _) _ _ _
  refine wpAny_pure ⟨Code.quiet_builtin _ (by decide +kernel), codeAny_builtin F.entry_type_call ?_⟩
  rw [Around.under_plain (weight_type_call_type "set" [.ref q] []) rfl]
  repeat (any_goals (first | assumption | wp_step))
  refine codeAny_mono (code_set_led1 (.ref q) (E := E) (Q₁ := fun ob s1 => ob = .ref s.heap.objs.size ∧ s1 = { s with heap := s.heap.push (newSetObj w) }) ⟨rfl, rfl⟩) fun r s1 hr => ?_
  match r, hr with
  | .ok (.ret ob), hr =>
    obtain ⟨rfl, rfl⟩ := hr
    have g1 : (s.heap.push (newSetObj w)).get? s.heap.objs.size = some (newSetObj w) := Heap.get?_push_size _ rfl
    have g2 : Shared.TypeIs { s with heap := s.heap.push (newSetObj w) } (.ref s.heap.objs.size) "set" := ⟨_, g1, rfl⟩
    have g3 := F.called_set.init.lookup
    have g4 := F.called_set.init.bind (.ref s.heap.objs.size)
    repeat (any_goals (first | assumption | wp_step))
    refine codeAny_mono (codeAny_call_builtin (R := wants (fun r s2 => r = .none ∧ ∃ h' tk c, s2 = { s with heap := h', toks := tk } ∧ SetR w h' s.heap.objs.size (fun j => decide (j ∈ ks)) c ∧ c ≤ ks.length ∧
        (∀ b o, s.heap.get? b = some o → h'.get? b = some o)) E) F.called_set.init.plain F.entry_set_init (check_set_init_1 g2 ?_)) fun r2 s2 hr2 => ?_
    · obtain ⟨⟨tc, td, tdat, tsl⟩, k1, k2, nl, k3⟩ := hq
      simp only at k2 k3
      subst k2 k3
      have k4 : (s.heap.push (newSetObj w)).get? q = some { cls := .type "list", dict := td, data := .seq its nl, slots := tsl } := Heap.get?_push_of_some _ k1
      have k5 := F.sub_list_set
      have k6 := F.sub_list_frozenset
      have k7 : (Value.type "list" == Value.type "dict") = false := by decide
      have k8 : (s.heap.push (newSetObj w)).IsList q its := ⟨_, k4, rfl, nl, rfl⟩
      unfold Builtin.«set.__init__» noKeywords Builtin.Frozenset.updateFrom
      generalize hPI : pyIter = PI
      wp_walk
      subst hPI
      refine wpAny_pyIter_list k8 ?_
      refine wpAny_bind (wpAny_runValue ?_)
      have q1 : q < s.heap.objs.size := Heap.lt_size k1
      have q2 : A.in1.in1.in1.handled = none := by simp [ha]
      have q3 : q ≠ (s.heap.push (newSetObj w)).objs.size := by
        rw [Heap.size_push]; exact Nat.ne_of_lt (Nat.lt_succ_of_lt q1)
      have q4 : s.heap.objs.size ∉ [(s.heap.push (newSetObj w)).objs.size, q] := by
        rw [Heap.size_push]
        intro z
        simp only [List.mem_cons, List.not_mem_nil, or_false] at z
        rcases z with z | z
        · exact absurd z (Nat.ne_of_lt (Nat.lt_succ_self _))
        · exact absurd z (Nat.ne_of_gt q1)
      have q5 : ∀ (i : Nat) (v : Value), its[i]? = some v → ∃ k t, ks[i]? = some k ∧ v = .int k t := fun i v hv => by
        have hb : i < ks.length := by rw [← hlen]; exact (Array.getElem?_eq_some_iff.mp hv).1
        obtain ⟨t, e⟩ := PyProof.Rows.IntsAre.int_at hi i v (by rw [Array.getElem?_toList]; exact hv)
        refine ⟨ks[i], t, List.getElem?_eq_getElem hb, ?_⟩
        rw [e, List.getD_eq_getElem?_getD, List.getElem?_eq_getElem hb] <;> rfl
      refine set_update_ints ((Walks.list q2 _ q q3 its).toS) s.heap.objs.size q4 ks hlen hs q5 (its.size - 0) 0 _ (by omega) (Nat.zero_le _)
        ⟨⟨_, Heap.get?_push_size _ rfl, rfl, rfl⟩, (k8.push _)⟩ ?c0 ?cR
      case c0 => exact ⟨0, Nat.le_refl 0, setR_new_at (Heap.get?_push_of_some _ g1)⟩
      case cR =>
        intro s' c' hm hc' hS'
        obtain ⟨h', y1, y2, tk', y3⟩ := s'
        have e1 : y1 = s.gens := hm.gens
        have e2 : y2 = s.drawn := hm.drawn
        have e3 : y3 = s.os := hm.os
        subst e1 e2 e3
        show wpAny _ _ _ _ _ _
        refine wpAny_pure ?_
        show wpAny _ _ (ret Value.none) _ _ _
        rw [hlen] at hc'
        refine wpAny_pure ⟨rfl, h', tk', c', rfl, hS', hc', fun b o e => hm.heap b o (fun z => ?_) (Heap.get?_push_of_some _ (Heap.get?_push_of_some _ e))⟩
        have b0 : b < s.heap.objs.size := Heap.lt_size e
        simp only [List.mem_cons, List.not_mem_nil, or_false] at z
        rcases z with z | z
        · exact absurd z (Nat.ne_of_lt b0)
        · rw [Heap.size_push] at z
          exact absurd z (Nat.ne_of_lt (Nat.lt_succ_of_lt b0))
    · match r2, hr2 with
      | .ok (.ret r), hr2 =>
        obtain ⟨rfl, h', tk, c', rfl, z1, z2, z3⟩ := hr2
        repeat (any_goals (first | assumption | wp_step))
        exact h _ _ _ z1 z2 z3
      | .error e, hr2 => exact hr2
      | .ok .next, hr2 => exact hr2.elim
      | .ok .brk, hr2 => exact hr2.elim
      | .ok .cont, hr2 => exact hr2.elim
  | .error e, hr => exact hr
  | .ok .next, hr => exact hr.elim
  | .ok .brk, hr => exact hr.elim
  | .ok .cont, hr => exact hr.elim
end
section
variable {X : Cx}
def rSetL (K : PySem.W.Frag) (w : World) : List V → Hp → VK → Prop := fun vs H Q => ∃ (a : Addr) (ns : List Int), vs = [V.ref a] ∧ SqL K H a (ns.map V.int) ∧ ns.length + 1 < scanBound ∧
  ∀ (p : Addr) (c : Nat), H p = none → c ≤ ns.length → Q (.ref p) (upd H p (SetO w p (fun j => decide (j ∈ ns)) c))
theorem call_setL (hc : X.calm = true) : CallR X (.type "set") (rSetL X.K X.w) := by
  intro pins s σ H vs us Q I r h
  obtain ⟨a, ns, rfl, hs, hb, q⟩ := h
  obtain ⟨its, rv, hl, _⟩ := I.list hs
  rw [Vals.ref1 r]
  refine set_of_list ns (I.ok.hd hc) hl.isList rv.ints hb fun h' tk c z1 z2 z3 => ?_
  exact ⟨.ref _, upd H s.heap.objs.size (SetO X.w s.heap.objs.size (fun j => decide (j ∈ ns)) c), I.laid z3 (Nat.le_refl _) (setO_new z1), rfl, q _ c (I.hok.fresh (Nat.le_refl _)) z2⟩
def rMinT (K : PySem.W.Frag) : List V → Hp → VK → Prop := fun vs H Q => ∃ (a : Addr) (ns : List Int), vs = [V.ref a] ∧ SqT K H a (ns.map V.int) ∧ 0 < ns.length ∧ ∀ m, m ∈ ns → (∀ k, k ∈ ns → m ≤ k) → Q (.int m) H
def rMaxT (K : PySem.W.Frag) : List V → Hp → VK → Prop := fun vs H Q => ∃ (a : Addr) (ns : List Int), vs = [V.ref a] ∧ SqT K H a (ns.map V.int) ∧ 0 < ns.length ∧ ∀ m, m ∈ ns → (∀ k, k ∈ ns → k ≤ m) → Q (.int m) H
theorem cr_minT (hc : X.calm = true) : CallR X (.builtin "min") (rMinT X.K) := by
  intro pins s σ H vs us Q I r h
  obtain ⟨a, ns, rfl, hs, hne, q⟩ := h
  obtain ⟨its, rv, hl, _⟩ := I.tuple hs
  rw [Vals.ref1 r]
  obtain ⟨o, ho, hcl, hdt⟩ := hl
  exact min_rawT (I.ok.hd hc) ⟨o, ho, hcl, hdt⟩ rv.ints hne fun h' tk m t' hk h1 h2 => ⟨.int _, H, I.kept hk, ⟨_, rfl⟩, q m h1 h2⟩
theorem cr_maxT (hc : X.calm = true) : CallR X (.builtin "max") (rMaxT X.K) := by
  intro pins s σ H vs us Q I r h
  obtain ⟨a, ns, rfl, hs, hne, q⟩ := h
  obtain ⟨its, rv, hl, _⟩ := I.tuple hs
  rw [Vals.ref1 r]
  obtain ⟨o, ho, hcl, hdt⟩ := hl
  exact max_rawT (I.ok.hd hc) ⟨o, ho, hcl, hdt⟩ rv.ints hne fun h' tk m t' hk h1 h2 => ⟨.int _, H, I.kept hk, ⟨_, rfl⟩, q m h1 h2⟩
end
end Mp

set_option Elab.async false
set_option linter.all false
set_option maxRecDepth 100000
set_option maxHeartbeats 4000000
/-! Exception classes over ValueError whose __init__ hands a text on and keeps a place. -/
namespace Mp
open PySem PySem.Spec PyProof.Rows L2

/-- a def of a class's text -/
def inCls (st : Stmt) (j : Nat) : Stmt := match st with
  | .ClassDef _ _ _ b _ _ _ _ _ _ _ => b.getD j (.Pass ⟨0, 0, 0, 0⟩)
  | s => s
/-- the text of such an __init__ -/
structure BadT (st : Stmt) (msg : Str) : Prop where
  body : ∃ p0 p1 p2 k p3 p4 p5 p6 p7 p8 p9 p10 p11 p12 p13, defBody st =
    [.Expr (.Call (.Attribute (.Call (.Name "super" p0) [] [] p1) "__init__" p2) [.BinOp (.Constant (.str msg) k p3) .Add (.Call (.Name "str" p4) [.Name "place" p5] [] p6) p7] [] p8) p9,
     .Assign [.Attribute (.Name "self" p10) "place" p11] (.Name "place" p12) p13] ∧ p2.endLine = p8.line
  args : ∃ a1 a2, (defArgs st).posonlyargs ++ (defArgs st).args = [a1, a2] ∧ a1.arg = "self" ∧ a2.arg = "place"
  kind : (defScope st).kind = .function
  co : (defScope st).isCoroutine = false
  gen : (defScope st).isGenerator = false
  n1 : (defScope st).names.lookup ("self" : Str) = some .local
  n2 : (defScope st).names.lookup ("place" : Str) = some .local
  n3 : (defScope st).names.lookup ("__class__" : Str) = some .free
  n4 : (defScope st).names.lookup ("super" : Str) = some .globalImplicit
  n5 : (defScope st).names.lookup ("str" : Str) = some .globalImplicit
  n6 : (defScope st).names.all (fun y => y.2 != .cell && (y.2 != .free || y.1 == ("__class__" : Str))) = true
  few : msg.length < 100
  b : ∀ (nm qual : Str) (kV doc pm : Value) (an : Option Addr) (cdv ct : Value) (cc : Addr) (us : List Value), us.length = 2 → bindArgs (PySem.W.ksFn nm qual (defArgs st) (defBody st) (defScope st) .none kV doc pm an cdv ct cc) ⟨us, []⟩ = pure ((["self", "place"] : List Str).zip us)
/-- what the written part says of it -/
structure BadC (P : Program) (K : PySem.W.Frag) (st : Stmt) (C fI cc cda : Addr) : Prop where
  o : OexC K C
  ini : PySem.W.findIn K (.ref C) "__init__" = some (some (.ref fI))
  typ : PySem.W.typeIn K (.ref fI) = some (.type "function")
  fn : ∃ oc od osl qual kV doc pm an ct, K.lookup fI = some ⟨oc, od, .func (PySem.W.ksFn "__init__" qual (defArgs st) (defBody st) (defScope st) .none kV doc pm an (.ref cda) ct cc), osl⟩ ∧ PySem.W.codeIn K (.ref cda) qual = true
  code : ∃ ccl cdd vs ccs file tf, K.lookup cda = some ⟨ccl, cdd, .fields vs, ccs⟩ ∧ vs[2]? = some (.str file tf) ∧ ((P.main.file : Str) == file) = true
  cell : ∃ cl cld csl, K.lookup cc = some ⟨cl, cld, .cell (some (.ref C)), csl⟩
  cls : ∃ cd, PySem.W.clsIn K C = some cd
  sub : PySem.W.mroIn K C (.ref C) = some true
  sup : PySem.W.ks_superIn K C C "__init__" = some (some (.builtin "ValueError.__init__"))
  ve : PySem.W.subIn K (.ref C) (.type "ValueError") = some true
  s1 : PySem.W.nsIn K mainGlobals "super" = some none
  s2 : PySem.W.nsIn K mainGlobals "str" = some none
  tp : PySem.W.nsIn K cStatics "thirdparty.any" = some none
  pl : PySem.W.findIn K (.ref C) "place" = some none
  xf : XfC K C
  ex : PySem.W.exmOne K (.ref C) (.ref C) = some true
  top : (P.main.scope.names.lookup ("super" : Str)).isSome = false
/-- the promise of such an __init__: the place is kept, the rest of it is not told -/
def spInit (C : Addr) : Sp := fun vs H Q _ => ∃ (a : Addr) (i : Int), vs = [.ref a, .int i] ∧ i.natAbs < 1000000 ∧ H a = some (exo a C none) ∧ ∀ dx, H dx = none → dx ≠ a → Q .non (upd (upd H dx (exd dx [(("place" : Str), .int i)])) a (exo a C (some dx)))

section
variable {P : Program} {w : World} {K : PySem.W.Frag} {mg : Str → Option Value} {base : Heap}
/-- the context of the __init__'s body -/
def cxI (P : Program) (w : World) (K : PySem.W.Frag) (mg : Str → Option Value) (base : Heap) (qual : Str) (scope : Scope) (f cc : Addr) (cd : Value) (A : Around) (outer : List PySem.Env) (s : Shared) (H : Hp) (xe : Value → Shared → Prop) : Cx where
  prog := P
  w := w
  K := K
  mg := mg
  base := base
  A := A.deeper (PySem.W.ksEnv qual scope s.heap.objs.size f cd cc)
  N := ["self", "place"]
  s_0 := s
  H_0 := H
  env := PySem.W.ksEnv qual scope s.heap.objs.size f cd cc
  outer := outer
  stack := PySem.W.ksEnv qual scope s.heap.objs.size f cd cc :: outer
  ex := []
  calm := true
  fn := fun x => !(x == ("__class__" : Str))
  pn := []
  xe := xe
theorem cells_one {cc c : Addr} {x : Str} (h : ([(("__class__" : Str), cc)] : List (Str × Addr)).lookup x = some c) : x = "__class__" ∧ c = cc := by
  rw [List.lookup_cons] at h
  by_cases e : x = ("__class__" : Str)
  · subst e; simp at h; exact ⟨rfl, h.symm⟩
  · have : (x == ("__class__" : Str)) = false := by simpa using e
    rw [this] at h; simp at h
theorem inv_init {qual : Str} {st : Stmt} {msg : Str} {f cc : Addr} {cd : Value} {A : Around} {outer : List PySem.Env} {s : Shared} {h1 : Heap} {tk : Nat} {H : Hp} {xe : Value → Shared → Prop} {a : Addr} {i : Int} {u : Tok} {oc : Obj} {z : Option Value}
    (T : BadT st msg) (hcc : K.lookup cc = some oc) (hoc : oc.data = .cell z) (hd : A.handled = none) (e0 : Env0 P w K mg base A outer s H)
    (hns : h1.Ns s.heap.objs.size (fun x => (([("self" : Str), "place"].zip [Value.ref a, .int i u] : List (Str × Value))).reverse.lookup x)) (hk : ∀ b o, s.heap.get? b = some o → h1.get? b = some o) :
    Inv (cxI P w K mg base qual (defScope st) f cc cd A outer s H xe) [] [some (.ref a), some (.int i)] H { s with heap := h1, toks := tk } := by
  have hb := e0.bs cc oc (e0.mod.kin _ _ hcc)
  have hcl : ∀ y c, (cxI P w K mg base qual (defScope st) f cc cd A outer s H xe).env.cells.lookup y = some c → y = ("__class__" : Str) ∧ c = cc := fun y c e => cells_one e
  have noA : ∀ b : Addr, b ∉ (cxI P w K mg base qual (defScope st) f cc cd A outer s H xe).ex := fun b z => absurd (show b ∈ ([] : List Addr) from z) (by simp)
  refine ⟨⟨e0.mod, T.kind, rfl, rfl, Nat.le_refl _, fun x y c e1 e2 => ?_, fun x hx => ?_, fun x c hf e => ?_, fun _ => hd, Around.frames_deeper e0.frames, .inr ⟨rfl, rfl⟩, fun b z => absurd z (noA b), e0.bs, e0.bsz, fun b _ _ => noA b, fun b z => absurd z (noA b), e0.funs, e0.frf⟩,
    rfl, e0.bare, Un.kept hk, ⟨_, hns, fun i' y v h1' h2' h3' => ?_⟩, fun y c e => ?_, e0.hok.fresh (Nat.le_refl _), fun y c e => ?_, fun p hp => absurd (show p ∈ ([] : List (Addr × Obj)) from hp) (by simp), e0.hok.kept hk, rfl⟩
  · rw [(hcl x c e1).1, (hcl y c e2).1]
  · have hall := List.all_eq_true.mp T.n6
    have hx : (defScope st).names.lookup x = some .cell ∨ (defScope st).names.lookup x = some .free := hx
    have : x = ("__class__" : Str) := by
      rcases hx with hx | hx
      · have := hall _ (PySem.mem_of_lookup hx); simp at this
      · have := hall _ (PySem.mem_of_lookup hx); simpa using this
    subst this
    exact ⟨cc, rfl⟩
  · have := (hcl x c e).1
    subst this
    simp [cxI] at hf
  · match i', h1', h2' with
    | 0, h1', h2' =>
      have e1 : y = ("self" : Str) := (Option.some.inj h1').symm
      have e2 : v = .ref a := (Option.some.inj (Option.some.inj h2')).symm
      subst e1 e2
      exact ⟨.ref a, rfl, .inl ⟨T.n1, by simp [List.lookup, show (("self" : Str) == "place") = false from by decide]⟩⟩
    | 1, h1', h2' =>
      have e1 : y = ("place" : Str) := (Option.some.inj h1').symm
      have e2 : v = .int i := (Option.some.inj (Option.some.inj h2')).symm
      subst e1 e2
      exact ⟨.int i u, ⟨u, rfl⟩, .inl ⟨T.n2, by simp [List.lookup]⟩⟩
    | n + 2, h1', _ => simp [cxI] at h1'
  · obtain ⟨_, rfl⟩ := hcl y c e
    exact ⟨z, oc, hk _ _ hb.1, hoc⟩
  · obtain ⟨_, rfl⟩ := hcl y c e
    exact hb.2
/-- the built-in __init__, bound to an exception that is being made, is called -/
theorem mw_call {X : Cx} {pins : List (Addr × Obj)} {σ : L2.St} {H : Hp} {s : Shared} {A : Around} {E : Value → Shared → Prop} {a C u : Addr} {us : List Value} {Q : Value → Shared → Prop}
    (T : OexC X.K C) (I : Inv X pins σ H s) (e : H a = some (exo a C none)) (hu : s.heap.get? u = some (PySem.W.kxs_mw "ValueError.__init__" a)) (hl : us.length ≤ sizeLine)
    (h : ∀ s', Inv X pins σ H s' → Q .none s') : wpAny (model X.prog X.w) A (call (.ref u) us) Q E s := by
  obtain ⟨nm, q, N, bs, bm, sn, sub, ab, col, dd, k0, k1, k2, k3, k5, hC, hbm⟩ := T.cls
  obtain ⟨t1, ho⟩ := exo_at I.hok e
  have fin : ∀ h', (∀ b o, b ≠ a → s.heap.get? b = some o → h'.get? b = some o) → h'.get? a = some ({ cls := .ref C, dict := none, data := .fields #[.ref s.heap.objs.size, .none, .none, .none, .bool false, .none] } : Obj) → Q .none { s with heap := h' } := fun h' k hx => by
    have J := I.write (t' := s.toks) (x := a) (e := a) (o := exo a C none) (by rw [e]; exact True.intro) (.inl rfl) k ⟨_, hx⟩ (exo_ok hx)
    have eu : upd H a (exo a C none) = H := by
      funext b
      by_cases hb : b = a
      · rw [hb, upd_same, e]
      · rw [upd_ne hb]
    rw [eu] at J
    exact h _ J
  obtain ⟨hp, g, d, t, os⟩ := s
  refine wpAny_call (codeAny_of_tree ?_)
  show wpAny _ A.in1 (callAny (.ref u) ⟨us, []⟩) _ _ _
  simp only [callAny]
  refine wpAny_bind (wpAny_load hu ?_)
  have hmw : (Value.type "method-wrapper" == Value.type "method" || Value.type "method-wrapper" == Value.type "builtin_function_or_method" || Value.type "method-wrapper" == Value.type "method-wrapper") = true := by decide
  simp only [PySem.W.kxs_mw, hmw, if_true]
  refine PySem.W.KFB.if_so (by decide) ?_
  refine wpAny_bind (PySem.W.check_bound_init F.excBase_ValueError.toExcCallFacts (I.kIn _ _ hC) ho rfl ?_)
  refine wpAny_bind (wpAny_pure (wpAny_pure ?_))
  refine ⟨plainId_quiet F.excBase_ValueError.init.plain _, codeAny_builtin F.excBase_ValueError.initEntry ?_⟩
  refine PySem.W.exc_init_tree (cls := .ref C) (t0 := t1) (dv := none) (c2 := .none) (c3 := .none) (b4 := .bool false) ho hl fun h' k hx _ => ?_
  exact fin h' k hx
/-- o.name(..), o looked at where the call's own code is -/
theorem at_mcall {M : Model} {A : Around} {c : Code} {E : Value → Shared → Prop} {s : Shared} {env : PySem.Env} {o : Expr} {name : Str} {apos pos : Pos} {es : List Expr} {Q : Value → Shared → Prop} (hline : apos.endLine = pos.line)
    (hform : methodCallForm (es.length + ([] : List Keyword).length) (backTo pos (starEach es env)) (backToKw pos (keywordEach [] env)) = true)
    (h : _root_.PySem.wpAt M A c (attributeBase o name env (eval o env)) (fun ov s1 => wpAny M A (getMethod ov name (do return (← importBound o env).getD true)) (fun fx s2 => wpAny M A (callWith pos fx.1 fx.2 (backTo pos (starEach es env)) []) Q E s2) E s1) E s) :
    _root_.PySem.wpAt M A c (eval (.Call (.Attribute o name apos) es [] pos) env) Q E s := by
  have hpos : methodCallPos true o env apos pos = pure pos := by unfold methodCallPos; simp [hline]
  rw [arm_eval_Call]
  refine _root_.PySem.wpAt_bind (ks_wpAt_mono h (fun ov s1 h1 => _root_.PySem.wpAt_of_wpAny (wpAny_bind (wpAny_standAt ?_))) fun _ _ x => x)
  unfold methodCall
  rw [hform]
  refine wpAny_bind (wpAny_holding (wpAny_mono h1 (fun fx s2 h2 => ?_) fun _ _ x => x))
  exact wpAny_bind (wpAny_of_eq hpos h2)
/-- .. its first row: super().__init__(text + str(place)) -/
theorem init_row1 {C fI cc cda : Addr} {st : Stmt} {msg : Str} {qual : Str} {A : Around} {outer : List PySem.Env} {s s1 : Shared} {H : Hp} {xe : Value → Shared → Prop} {a : Addr} {i : Int} {body : List Stmt} {p0 p1 p2 p3 p4 p5 p6 p7 p8 p9 : Pos} {k : Nat} {Q : Flow → Shared → Prop}
    (T : BadT st msg) (B : BadC P K st C fI cc cda) (hpos : p2.endLine = p8.line) (hs : mg "super" = none) (ht : mg "str" = none) (hi : i.natAbs < 1000000) (ha : H a = some (exo a C none))
    (I : Inv (cxI P w K mg base qual (defScope st) fI cc (.ref cda) A outer s H xe) [] [some (.ref a), some (.int i)] H s1)
    (h : ∀ s', Inv (cxI P w K mg base qual (defScope st) fI cc (.ref cda) A outer s H xe) [] [some (.ref a), some (.int i)] H s' → Q .next s') :
    _root_.PySem.wpAt (model P w) (A.deeper (PySem.W.ksEnv qual (defScope st) s.heap.objs.size fI (.ref cda) cc)) (.func body (PySem.W.ksEnv qual (defScope st) s.heap.objs.size fI (.ref cda) cc))
      (exec (.Expr (.Call (.Attribute (.Call (.Name "super" p0) [] [] p1) "__init__" p2) [.BinOp (.Constant (.str msg) k p3) .Add (.Call (.Name "str" p4) [.Name "place" p5] [] p6) p7] [] p8) p9) (PySem.W.ksEnv qual (defScope st) s.heap.objs.size fI (.ref cda) cc)) Q xe s1 := by
  obtain ⟨oc, od, osl, qual', kV, doc, pm, an, ct, lk, hcd⟩ := B.fn
  obtain ⟨ccl, cdd, vs0, ccs, file, tf, hcda, hvs0, hfile⟩ := B.code
  obtain ⟨cl, cld, csl, hcell⟩ := B.cell
  obtain ⟨cd, hD⟩ := B.cls
  obtain ⟨a1, a2, hargs, ha1, ha2⟩ := T.args
  have KX := I.kIn
  obtain ⟨oD, hD1, hD2⟩ : ∃ oD, s1.heap.get? C = some oD ∧ oD.data = .cls cd := by
    have hD' := hD
    unfold PySem.W.clsIn at hD'
    split at hD'
    · rename_i c d cd' sl ho
      cases hD'
      exact ⟨_, KX _ _ ho, rfl⟩
    · cases hD'
  obtain ⟨t1, hoa⟩ := exo_at I.hok ha
  obtain ⟨m, hns, hl⟩ := id I.loc
  obtain ⟨v0, rv0, lk0⟩ := hl 0 "self" (.ref a) rfl rfl (.inl T.n1)
  obtain rfl : v0 = .ref a := rv0
  have hms : m "self" = some (.ref a) := by
    rcases lk0 with ⟨_, z⟩ | ⟨z, _⟩
    · exact z
    · have e1 : (defScope st).names.lookup ("self" : Str) = some .local := T.n1
      rcases z with z | z
      · exact absurd (e1.symm.trans z) (by decide)
      · exact absurd (e1.symm.trans z) (by decide)
  obtain ⟨mb, hb1, hb2⟩ := I.mod.blt
  have hsh : Env.kindOf (PySem.W.ksEnv qual (defScope st) s.heap.objs.size fI (.ref cda) cc) "super" = some .globalImplicit := T.n4
  have hch : Env.kindOf (PySem.W.ksEnv qual (defScope st) s.heap.objs.size fI (.ref cda) cc) "__class__" = some .free := T.n3
  refine ks_wpAt_Expr_any (env := PySem.W.ksEnv qual (defScope st) s.heap.objs.size fI (.ref cda) cc) (at_mcall hpos rfl ?_) I.quiet rfl
  refine ks_wpAt_super_base (env := PySem.W.ksEnv qual (defScope st) s.heap.objs.size fI (.ref cda) cc) (ar := a1) (fd := PySem.W.ksFn "__init__" qual' (defArgs st) (defBody st) (defScope st) .none kV doc pm an (.ref cda) ct cc) hsh hch (by decide) rfl (KX _ _ lk) rfl (by show ((defArgs st).posonlyargs ++ (defArgs st).args).head? = _; rw [hargs]; rfl) rfl (KX _ _ hcda) rfl hvs0 hfile B.top ?_
  refine PySem.W.ks_loadName_global T.kind hsh (Calls.loadGlobal_builtin (env := PySem.W.ksEnv qual (defScope st) s.heap.objs.size fI (.ref cda) cc) (I.mod.glob.keeps I.bk) hs (hb1.keeps I.bk) ((hb2 _ (by decide)).trans PyProof.Rows.Boot.«super») ⟨rfl, ?_⟩)
  refine wpAny_loadName_free T.kind hch rfl ⟨_, KX _ _ hcell, rfl⟩ ?_
  rw [ha1]
  refine wpAny_loadName_local T.kind T.n1 hns hms ?_
  have InA : PySem.W.InstAt s1.heap a { cls := .ref C, dict := none, data := .fields #[.ref t1, .none, .none, .none, .bool false, .none] } C none := ⟨hoa, rfl, rfl, trivial⟩
  have hxC : a ≠ C := PySem.W.ks_ne KX InA hD
  obtain ⟨hp, g, d, tk, os⟩ := s1
  refine ks_wpAny_isType_cls hD1 hD2 ⟨rfl, ?_⟩
  refine ks_wpAny_call_super hD1 hD2 hoa rfl (fun c z => by cases z) (PySem.W.looks_mroIn KX B.sub) fun h2 hso hk2 => ?_
  have I2 : Inv (cxI P w K mg base qual (defScope st) fI cc (.ref cda) A outer s H xe) [] [some (.ref a), some (.int i)] H ⟨h2, g, d, tk, os⟩ := I.kept (t' := tk) hk2
  have K2 := I2.kIn
  have InA2 : PySem.W.InstAt h2 a { cls := .ref C, dict := none, data := .fields #[.ref t1, .none, .none, .none, .bool false, .none] } C none := ⟨hk2 _ _ hoa, rfl, rfl, trivial⟩
  have hsup := B.sup
  unfold PySem.W.ks_superIn at hsup
  rw [hD] at hsup
  refine PySem.W.kxs_getMethod PySem.W.kxs_ValueError hso (PySem.W.looks_opaque K2 B.tp) (l₀ := cd.mro) (fun A Q E s k q => wpAny_bind ((PySem.W.looks_clsIn K2 hD) A _ E s k (wpAny_pure q))) rfl K2 hsup (InA2.type.andThen (PySem.W.looks_subIn K2 B.ve)) hxC (by decide) ?_
  have hpu : (h2.push (PySem.W.kxs_mw "ValueError.__init__" a)).get? h2.objs.size = some (PySem.W.kxs_mw "ValueError.__init__" a) := Heap.get?_push_at rfl rfl
  have I3 : Inv (cxI P w K mg base qual (defScope st) fI cc (.ref cda) A outer s H xe) [] [some (.ref a), some (.int i)] H ⟨h2.push (PySem.W.kxs_mw "ValueError.__init__" a), g, d, tk + 1, os⟩ := I2.kept (t' := tk + 1) fun b o e => Heap.get?_push_of_some _ e
  have lt2 := I2.lt
  have I4 : Inv (cxI P w K mg base qual (defScope st) fI cc (.ref cda) A outer s H xe) [(h2.objs.size, PySem.W.kxs_mw "ValueError.__init__" a)] [some (.ref a), some (.int i)] H ⟨h2.push (PySem.W.kxs_mw "ValueError.__init__" a), g, d, tk + 1, os⟩ := I3.pins_of fun p hp => by
    obtain rfl := List.mem_singleton.mp hp
    refine ⟨hpu, I2.hok.fresh (Nat.le_refl _), fun z => ?_, fun z => ?_, fun v z => by cases z⟩
    · have : (cxI P w K mg base qual (defScope st) fI cc (.ref cda) A outer s H xe).env.locals < h2.objs.size := lt2
      rw [← z] at this; exact absurd this (Nat.lt_irrefl _)
    · obtain ⟨_, o, e, _⟩ := Heap.FunFrames.mem I2.stack.2.2 (b := h2.objs.size) z
      exact absurd (Heap.lt_size e) (Nat.lt_irrefl _)
  show wpAny _ _ (callWith p8 (.ref h2.objs.size) [] (backTo p8 (starEach [.BinOp (.Constant (.str msg) k p3) .Add (.Call (.Name "str" p4) [.Name "place" p5] [] p6) p7] (PySem.W.ksEnv qual (defScope st) s.heap.objs.size fI (.ref cda) cc))) []) _ _ _
  refine PySem.W.kxs_callWith (i := "ValueError.__init__") (x := a) rfl (Calls.evalArgs_plain ?_)
  have hg : Gl (cxI P w K mg base qual (defScope st) fI cc (.ref cda) A outer s H xe) "str" := T.n5
  have pe : PE (cxI P w K mg base qual (defScope st) fI cc (.ref cda) A outer s H xe) (.BinOp (.Constant (.str msg) k p3) .Add (.Call (.Name "str" p4) [.Name "place" p5] [] p6) p7) _ :=
    pe_op op_add_str pe_str (pe_callTy call_str_int hg ht PyProof.Rows.Boot.«str» (pa_cons (pe_var (i := 1) rfl (.inl T.n2)) pa_nil))
  refine thn ((pa_cons pe pa_nil).run p8 _ _ _ _ (fun vs H' => H' = H ∧ vs.length = 1) I4 ?_) fun us s2 ⟨vs, H2, J, rv, hH, hlen⟩ => ?_
  · have h1 := PyProof.Rows.len_str_of_int i
    have h2 := T.few
    refine ⟨.int i, rfl, i, rfl, ?_, msg, toString i, rfl, rfl, ?_, rfl, rfl⟩
    · exact PyProof.Rows.shown_abs (N := 1000000) (by split <;> omega) (by decide +kernel)
    · rw [sizeLine_eq]
      have h3 : ((toString i : Str).length : Int) ≤ i.natAbs + 2 := h1
      omega
  · subst hH
    have hu := (J.pin (h2.objs.size, PySem.W.kxs_mw "ValueError.__init__" a) (by simp [cxI])).1
    exact ⟨hu, mw_call B.o (J.pins_of (pins' := []) fun p hp => by cases hp) ha hu (by show us.length ≤ sizeLine; rw [← rv.length, hlen, sizeLine_eq]; decide) fun s' J' => h s' J'⟩
/-- THE WALK of such an __init__ -/
theorem init_ok {C fI cc cda : Addr} {st : Stmt} {msg : Str} (T : BadT st msg) (B : BadC P K st C fI cc cda) (hs : mg "super" = none) (ht : mg "str" = none) :
    ∃ fd, FnOk P w K mg base (L2.CX P w) 1 fI fd ["self", "place"] (spInit C) ∧ Binds K fd ["self", "place"] [] := by
  obtain ⟨oc, od, osl, qual, kV, doc, pm, an, ct, lk, hcd⟩ := B.fn
  obtain ⟨ccl, cdd, vs0, ccs, file, tf, hcda, hvs0, hfile⟩ := B.code
  obtain ⟨cl, cld, csl, hcell⟩ := B.cell
  obtain ⟨cd, hD⟩ := B.cls
  refine ⟨_, ⟨fun vs H Q E q => ?_, fun A outer s H args us vs Q E hr e0 hb r hsp => ?_⟩, Binds.all (fd := PySem.W.ksFn "__init__" qual (defArgs st) (defBody st) (defScope st) .none kV doc pm an (.ref cda) ct cc) fun us hl => T.b _ _ _ _ _ _ _ _ _ us hl⟩
  · obtain ⟨a, i, rfl, _⟩ := q
    rfl
  obtain ⟨a, i, rfl, hi, ha, hq⟩ := hsp
  obtain ⟨u0, us1, rfl, r0, r1⟩ : ∃ u0 us1, us = u0 :: us1 ∧ RelV (.ref a) u0 ∧ Vals [.int i] us1 := by cases r with | cons x y => exact ⟨_, _, rfl, x, y⟩
  obtain ⟨u1, us2, rfl, r2, r3⟩ : ∃ u1 us2, us1 = u1 :: us2 ∧ RelV (.int i) u1 ∧ Vals [] us2 := by cases r1 with | cons x y => exact ⟨_, _, rfl, x, y⟩
  obtain rfl : us2 = [] := by cases r3; rfl
  obtain rfl : u0 = .ref a := r0
  obtain ⟨tk, rfl⟩ := r2
  have KX : K.In s.heap := e0.mod.kin.keeps fun b o e => (e0.bs b o e).1
  have lim : s.heap.NoLimit := e0.mod.nolimit.keeps fun b o e => (e0.bs b o e).1
  obtain ⟨p0, p1, p2, k, p3, p4, p5, p6, p7, p8, p9, p10, p11, p12, p13, hbody, hpos⟩ := T.body
  obtain ⟨a1, a2, hargs, ha1, ha2⟩ := T.args
  refine ks_codeAny_call_defAt (fd := PySem.W.ksFn "__init__" qual (defArgs st) (defBody st) (defScope st) .none kV doc pm an (.ref cda) ct cc) hr.depth (KX _ _ lk) rfl lim (PySem.W.codeRec_of KX hcd) rfl hb (fun x hx z => ?_) (fun x hx => ?_) (fun h1 hns hk => ?_) T.co T.gen T.kind
  · have := List.all_eq_true.mp T.n6 x hx
    rw [z] at this
    simp at this
  · simp at hx
    rcases hx with rfl | rfl
    · exact T.n1
    · exact T.n2
  let xe : Value → Shared → Prop := fun e s' => wpAny (model P w) (A.deeper (PySem.W.ksEnv qual (defScope st) s.heap.objs.size fI (.ref cda) cc)) (leaving (PySem.W.ksEnv qual (defScope st) s.heap.objs.size fI (.ref cda) cc) e) (fun _ s'' => CR (L2.CX P w) outer P w H s Q E (.error e) s'') (fun e' s'' => CR (L2.CX P w) outer P w H s Q E (.error e') s'') s'
  have I0 := inv_init (i := i) (u := tk) (tk := s.toks + 2) (qual := qual) (f := fI) (cd := .ref cda) (xe := xe) T hcell rfl hr.hd e0 hns hk
  have hno : PySem.W.findIn K (.ref C) "place" = some none := B.pl
  have st2 := pss_cons (ps_ost (X := cxI P w K mg base qual (defScope st) fI cc (.ref cda) A outer s H xe) (f := "place") (p' := p11) (pos := p13) (pe_var (pos := p10) (i := 0) rfl (.inl T.n1)) (pe_var (pos := p12) (i := 1) rfl (.inl T.n2))) pss_nil
  have go : _root_.PySem.wpAt (model P w) (A.deeper (PySem.W.ksEnv qual (defScope st) s.heap.objs.size fI (.ref cda) cc)) (.func (defBody st) (PySem.W.ksEnv qual (defScope st) s.heap.objs.size fI (.ref cda) cc))
      (execs (defBody st) (PySem.W.ksEnv qual (defScope st) s.heap.objs.size fI (.ref cda) cc)) (SP (cxI P w K mg base qual (defScope st) fI cc (.ref cda) A outer s H xe) [] { nx := fun _ H' => Q .non H', rt := Q }) xe { s with heap := h1, toks := s.toks + 2 } := by
    rw [hbody]
    refine ks_wpAt_execs_cons (init_row1 T B hpos hs ht hi ha I0 fun s' J => ?_)
    exact _root_.PySem.wpAt_of_wpAny (st2.run [] s' _ H _ J ⟨.int i, rfl, .ref a, rfl, a, C, rfl, B.o, hno, .inl ⟨ha, fun dx n ne => hq dx n ne⟩⟩)
  refine ks_wpAt_mono go (fun fl s' hs => ?_) fun e s' hs => hs
  have fin : ∀ {σ' : L2.St} {H' : Hp} {v : V} {u : Value}, Inv (cxI P w K mg base qual (defScope st) fI cc (.ref cda) A outer s H xe) [] σ' H' s' → RelV v u → Q v H' → CE outer P w H s Q u s' :=
    fun {σ' H' v u} J rv q => ⟨v, H', J.os, J.bare, J.base, J.hok, rv, q⟩
  cases fl with
  | ret u =>
    obtain ⟨v, σ', H', J, rv, q⟩ := hs
    exact fin J rv q
  | next =>
    obtain ⟨σ', H', J, q⟩ := hs
    exact fin (v := V.non) (u := Value.none) J rfl q
  | brk =>
    obtain ⟨_, _, _, q⟩ := hs
    exact False.elim q
  | cont =>
    obtain ⟨_, _, _, q⟩ := hs
    exact False.elim q
end
end Mp

set_option Elab.async false
set_option linter.all false
set_option maxRecDepth 100000
set_option maxHeartbeats 4000000
/-! enumerate over a tuple. -/
namespace Mp
open PySem PySem.Spec PyProof.Rows L2
theorem enum_of_tup (l : Addr) (items : Array Value) :
    Meets (Builtin.«enumerate.__new__» ⟨[.type "enumerate", .ref l], []⟩) (fun _ R s => s.heap.IsTuple l items ∧
      R (.ok (.ret (.ref (s.heap.push { cls := .type "tuple_iterator", data := .fields #[.ref l, .int 0 0] }).objs.size)))
        { s with heap := (s.heap.push { cls := .type "tuple_iterator", data := .fields #[.ref l, .int 0 0] }).push { cls := .type "enumerate", data := .fields #[.none, .bool false, .ref s.heap.objs.size, rawInt 0, .none, .none] } }) :=
  .of_wp fun prog w A R s h => by
    obtain ⟨hp, g, d, tk, os⟩ := s
    obtain ⟨hl, h⟩ := h
    have hs := sub_enumerate
    obtain ⟨ol, ho, hc, n, hd⟩ := id hl
    wp_walk using AutoSeq1.wpAny_loadPart' ho
    refine wpAny_stack_any fun st => wpAny_pure ?_
    split
    · rename_i c _ _ _ _ _
      cases (c == Value.type "enumerate")
      · wp_walk using AutoSeq1.wpAny_loadPart' ho, wpAny_pyIter_tuple hl
        exact ⟨_, rfl, h⟩
      · wp_walk using AutoSeq1.wpAny_loadPart' ho, wpAny_pyIter_tuple hl
        exact ⟨_, rfl, h⟩
    · wp_walk using AutoSeq1.wpAny_loadPart' ho, wpAny_pyIter_tuple hl
      exact ⟨_, rfl, h⟩
section
variable {prog : Program} {w : World} {A : Around} {E : Value → Shared → Prop} {s : Shared}
theorem call_enum_tup {l : Addr} {items : Array Value} {Q : Value → Shared → Prop} (hL : s.heap.IsTuple l items)
    (h : ∀ h', IsEnum h' (s.heap.objs.size + 1) s.heap.objs.size 0 .none → h'.IsTupleIter s.heap.objs.size l 0 → (∀ b o, s.heap.get? b = some o → h'.get? b = some o) → Q (.ref (s.heap.objs.size + 1)) { s with heap := h' }) :
    wpAny (model prog w) A (call (.type "enumerate") [.ref l]) Q E s := by
  have hz : (s.heap.push { cls := .type "tuple_iterator", data := .fields #[.ref l, .int 0 0] }).objs.size = s.heap.objs.size + 1 := Heap.size_push ..
  refine callType_new F.called_enumerate (by decide) (F.typeCall_enumerate_1 _) (F.newCall_enumerate_1 _) (fun obj => F.args_object_init_2 obj _) F.entry_enumerate_new (enum_of_tup l items) ⟨hL, ?_⟩
  show _ ∧ _
  rw [hz]
  have he : IsEnum ((s.heap.push { cls := .type "tuple_iterator", data := .fields #[.ref l, .int 0 0] }).push
      { cls := .type "enumerate", data := .fields #[.none, .bool false, .ref s.heap.objs.size, rawInt 0, .none, .none] }) (s.heap.objs.size + 1) s.heap.objs.size 0 .none := by
    have z := Heap.get?_push_size (s.heap.push { cls := .type "tuple_iterator", data := .fields #[.ref l, .int 0 0] }) (o := { cls := .type "enumerate", data := .fields #[.none, .bool false, .ref s.heap.objs.size, rawInt 0, .none, .none] }) rfl
    rw [hz] at z; exact z
  exact ⟨⟨_, he, rfl⟩, h _ he ⟨_, Heap.get?_push_of_some _ (Heap.get?_push_size _ rfl), rfl, rfl⟩ fun b o x => Heap.get?_push_of_some _ (Heap.get?_push_of_some _ x)⟩
theorem next_enum_tup_end {e it l : Addr} {i : Nat} {items : Array Value} {old : Value} {Q : Option Value → Shared → Prop} (hh : A.handled = none) (he : IsEnum s.heap e it i old) (hit : s.heap.IsTupleIter it l i) (hl : s.heap.IsTuple l items) (hx : items[i]? = none)
    (hQ : ∀ h', Heap.ExtBut it s.heap h' → Q none { s with heap := h' }) : wpAny (model prog w) A (pyNext (.ref e)) Q E s := by
  have hT : s.TypeIs (.ref e) "enumerate" := ⟨_, he, rfl⟩
  unfold pyNext
  refine wpAny_bind (wpAny_attempt (wpAny_callSpecial?_slot (name := Str.ofString "__next__") hT F.slot_enumerate_next (wpAny_call_entry F.slot_enumerate_next hT F.entry_enumerate_next ?_ (F.args_enumerate_next_1 _))))
  show wpAny _ _ (field (.ref e) 2 >>= _) _ _ _
  refine wpAny_bind (wpAny_field he rfl (x := .ref it) rfl (wpAny_bind (wpAny_nextOf_tuple_end hh hit hl hx fun h' x he' ⟨o, ho, hc⟩ => ?_)))
  exact wpAny_bind (wpAny_isInstance (T := "StopIteration") (b := true) ⟨o, ho, hc⟩ isSubtype_stop (wpAny_pure (hQ _ he')))
end
/-- the tuple at a, each item in a new pair -/
def IteT (K : PySem.W.Frag) (a : Addr) : L2.It :=
  ⟨fun i H => ∃ (xs : List V) (x : V), SqT K H a xs ∧ xs[i]? = some x, fun i H v H' => ∃ T x, v = .ref T ∧ H T = none ∧ H' = upd H T (.tup [.int (i : Nat), x]) ∧ ∀ xs, SqT K H a xs → xs[i]? = some x, fun i H => ∃ xs : List V, SqT K H a xs ∧ xs.length ≤ i⟩
theorem turn_enumT {P : Program} {w : World} {K : PySem.W.Frag} {elts : List Expr} {kk : Nat} {tpos : Pos} (a e it : Addr) (hia : it ≠ a) (hea : e ≠ a) :
    Turn P w K (.Tuple elts kk tpos) (IteT K a) [e, it] e (fun i h => (∃ old, IsEnum h e it ((i : Nat) : Int) old) ∧ h.IsTupleIter it a i ∧ e ≠ it) where
  mem := by simp
  obj := fun i h st b hb => by
    obtain ⟨⟨old, he⟩, ⟨o, ho, hc, hd⟩, _⟩ := st
    have e' : b = e ∨ b = it := by simpa using hb
    rcases e' with z | z
    · rw [z]; exact ⟨_, he, fun v q => nomatch q⟩
    · rw [z]; exact ⟨o, ho, fun v q => by rw [hd] at q; cases q⟩
  keep := fun i h h' st k => let ⟨⟨old, he⟩, hi, hne⟩ := st; ⟨⟨old, k e (by simp) _ he⟩, hi.at fun o q => k it (by simp) o q, hne⟩
  item := by
    intro X hP hw hK hc i pins s σ H E I hf st hg
    subst hP hw hK
    obtain ⟨⟨old, he⟩, hit, hne⟩ := st
    obtain ⟨xs, x, hq, hx⟩ := hg
    obtain ⟨its, rv, p, hz⟩ := I.tuple hq
    obtain ⟨u, hu, ru⟩ := rv.get hx
    have p : s.heap.IsTuple a its.toArray := p
    have hel : e < s.heap.objs.size := Heap.lt_size he
    have hil : it < s.heap.objs.size := by obtain ⟨_, q, _⟩ := hit; exact Heap.lt_size q
    have hlt : i < its.toArray.size := by
      have := (List.getElem?_eq_some_iff.mp hu).1
      simpa using this
    refine wpAny_pyNext_enum_itemD (Draws.tuple (prog := X.prog) (w := X.w) (A := X.A.in1) (I.ok.hd hc) it a (Ne.symm hia) its.toArray) he ⟨hit, p⟩ hlt hne (by simp [hne, hea]) fun y h' tk hy ho hst hT hsz hk => ?_
    have hy : its.toArray[i]? = some y := hy
    obtain rfl : y = u := by
      have : its.toArray[i]? = some u := by simpa using hu
      rw [this] at hy; exact (Option.some.inj hy).symm
    refine ⟨_, rfl, wpAny_letOwnedTupleGo_enum (s := { s with heap := h', toks := tk + 1 }) ho fun h'' he' sb => ?_⟩
    have hT2 : h''.get? s.heap.objs.size = some { cls := .type "tuple", data := .seq #[.int i tk, y] } := (sb.2 _ (Nat.ne_of_gt hel)).trans hT
    have new : ObjOk X.prog X.w (upd H s.heap.objs.size (.tup [.int (i : Nat), x])) h'' s.heap.objs.size (.tup [.int (i : Nat), x]) :=
      ⟨by show 2 ≤ sizeLine; decide, [.int i tk, y], .cons ⟨_, rfl⟩ (.cons ru .nil), ⟨_, hT2, rfl, _, rfl⟩⟩
    have I1 : Inv X pins σ (upd H s.heap.objs.size (.tup [.int (i : Nat), x])) { s with heap := h'', toks := tk + 1 } :=
      I.turnedNew (t' := tk + 1) (ch := [e, it]) (fun b ob hb q => (sb.2 b (fun z => hb (by simp [z]))).trans (hk b ob (fun z => hb (by simp [z])) (fun z => hb (by simp [z])) q)) hf (Nat.le_refl _) new
    refine ⟨.ref s.heap.objs.size, _, I1, rfl, ⟨_, x, rfl, I.hok.fresh (Nat.le_refl _), rfl, fun ys hy => by rw [I.tuple_inj hy hq]; exact hx⟩, ⟨⟨y, ?_⟩, hst.1.at fun o q => (sb.2 it (Ne.symm hne)).trans q, hne⟩, fun b hb => ?_⟩
    · have e1 : ((i + 1 : Nat) : Int) = (i : Int) + 1 := by omega
      rw [e1]; exact he'
    · have hb' : b < s.heap.objs.size := by
        have e' : b = e ∨ b = it := by simpa using hb
        rcases e' with z | z
        · rw [z]; exact hel
        · rw [z]; exact hil
      rw [upd_ne (Nat.ne_of_lt hb')]
      exact (hf b hb).1
  done := by
    intro X hP hw hK hc i pins s σ H E I hf st hg
    subst hP hw hK
    obtain ⟨⟨old, he⟩, hit, hne⟩ := st
    obtain ⟨xs, hq, hx⟩ := hg
    obtain ⟨its, rv, p, hz⟩ := I.tuple hq
    have p : s.heap.IsTuple a its.toArray := p
    obtain ⟨f0, f1, f2, f3, f4, f5⟩ := hf it (by simp)
    have hl := rv.length
    exact next_enum_tup_end (I.ok.hd hc) he hit p (by simp; omega) fun h' eb => ⟨rfl, I.turned (t' := s.toks) (fun b o hb q => eb b o hb q) f0 f1 f3 f4 f5⟩
  self := fun A i s Q E st h => let ⟨⟨_, he⟩, _⟩ := st; wpAny_pyIter_enum he h
def iEnumT (K : PySem.W.Frag) (ta : TA) : TI := fun σ H R => ta σ H fun vs H1 => ∃ a, vs = [.ref a] ∧ ((∃ xs, SqL K H1 a xs ∧ R (Ite K a) H1) ∨ ∃ xs, SqT K H1 a xs ∧ R (IteT K a) H1)
theorem pi_enumT {X : Cx} {e : Expr} {ta : TA} {p pos tpos : Pos} {elts : List Expr} {kk : Nat} (hg : Gl X "enumerate") (hm : X.mg "enumerate" = none) (ha : PA X [e] ta) (hs : starEach [e] X.env = [(false, eval e X.env)] := by rfl) :
    PI X (.Tuple elts kk tpos) (.Call (.Name "enumerate" p) [e] [] pos) (iEnumT X.K ta) := by
  refine ⟨fun pins s σ H R I h => ?_⟩
  refine Call_ (ld_blt I hg hm boot_enumerate (PyProof.Rows.callWith_type1 (thn (ha.run pos pins s σ H _ I h) fun us s1 ⟨vs, H1, I1, r1, q1⟩ => ?_) hs rfl))
  obtain ⟨a, ex, q⟩ := q1
  subst ex
  cases r1 with
  | cons r rr =>
    cases rr
    cases r
    have fp : ∀ b ∈ [s1.heap.objs.size + 1, s1.heap.objs.size], FpOk X pins H1 b := fun b hb => by
      have e' : b = s1.heap.objs.size + 1 ∨ b = s1.heap.objs.size := by simpa using hb
      have hle : s1.heap.objs.size ≤ b := by
        rcases e' with z | z
        · rw [z]; exact Nat.le_add_right _ _
        · rw [z]; exact Nat.le_refl _
      exact I1.fpOk hle (I1.hok.fresh hle)
    rcases q with ⟨xs, hq, q⟩ | ⟨xs, hq, q⟩
    · obtain ⟨its, rv, p', hz⟩ := I1.list hq
      refine call_enumerate_list p'.isList fun h' he hit hsz hk => wpAny_pyIter_enum he ?_
      have I2 : Inv X pins σ H1 { s1 with heap := h' } := I1.kept (t' := s1.toks) hk
      exact ⟨s1.heap.objs.size + 1, [s1.heap.objs.size + 1, s1.heap.objs.size], _, _, H1, rfl, I2, turn_enum a (s1.heap.objs.size + 1) s1.heap.objs.size, ⟨⟨.none, he⟩, hit, Nat.succ_ne_self _⟩, fp, q⟩
    · obtain ⟨its, rv, p', hz⟩ := I1.tuple hq
      have p' : s1.heap.IsTuple a its.toArray := p'
      have hlt : a < s1.heap.objs.size := by obtain ⟨o, ho, _⟩ := p'; exact Heap.lt_size ho
      refine call_enum_tup p' fun h' he hit hk => wpAny_pyIter_enum he ?_
      have I2 : Inv X pins σ H1 { s1 with heap := h' } := I1.kept (t' := s1.toks) hk
      exact ⟨s1.heap.objs.size + 1, [s1.heap.objs.size + 1, s1.heap.objs.size], _, _, H1, rfl, I2, turn_enumT a (s1.heap.objs.size + 1) s1.heap.objs.size (Nat.ne_of_gt hlt) (Nat.ne_of_gt (Nat.lt_succ_of_lt hlt)), ⟨⟨.none, he⟩, hit, Nat.succ_ne_self _⟩, fp, q⟩
end Mp

set_option Elab.async false
set_option linter.all false
set_option maxRecDepth 100000
/-! More operations over data: products, truth, items, slices, built-in functions. -/
namespace Mp
open PySem PySem.Spec PyProof.Rows L2

theorem Reps.flatten {K : PySem.W.Frag} {F : Hp} {A : List Addr} {vs : List V} {ds : List D} (h : Reps K F A vs ds) : ∀ k : Nat, Reps K F A (List.replicate k vs).flatten (List.replicate k ds).flatten
  | 0 => .nil
  | k + 1 => by
    rw [List.replicate_succ, List.replicate_succ, List.flatten_cons, List.flatten_cons]
    exact h.append (Reps.flatten h k)
section
variable {X : Cx} {CA : Str → Option Addr}
theorem mul_ok : ∃ r, OpR X (binaryOp .Mult) r ∧ Op2 X.K CA r mulD := by
  refine ⟨_, OpR.or op_mul (OpR.or op_rep op_repA), ?_⟩
  intro W σ H env obs x y a b d Q S rx ry e q
  unfold mulD at e
  split at e
  · split at e
    · rename_i h; cases e; cases rx; cases ry
      refine .inl ⟨_, _, rfl, rfl, ?_, q _ W H .refl S (.int _)⟩
      unfold mulOk at h
      rw [Bool.or_eq_true] at h
      rcases h with h | h
      · exact .inl (natAbs_lt (of_decide_eq_true h))
      · exact .inr (natAbs_lt (of_decide_eq_true h))
    · cases e
  · split at e
    · rename_i h; cases e; cases ry
      rw [Bool.and_eq_true] at h
      obtain ⟨p, vs, rfl, h1, r1⟩ := S.lst rx
      have h2 := of_decide_eq_true h.1
      exact .inr (.inl ⟨p, _, vs, rfl, rfl, h1, h2.1, h2.2, by rw [r1.length]; exact of_decide_eq_true h.2, GP.lst S q (r1.flatten _)⟩)
    · cases e
  · split at e
    · rename_i ds k h; cases e; cases ry
      rw [Bool.and_eq_true] at h
      obtain ⟨p, vs, rfl, h1, r1⟩ := S.tup rx
      have h2 := of_decide_eq_true h.1
      refine .inr (.inr ⟨p, _, vs, rfl, rfl, h1, h2.1, h2.2, by rw [r1.length]; exact of_decide_eq_true h.2, fun z => ?_, fun _ => GP.tup S q (r1.flatten _)⟩)
      rcases z with z | z
      · subst z; cases r1
        have e0 : (List.replicate k.toNat ([] : List D)).flatten = [] := by simp
        rw [e0] at q
        exact q _ W H .refl S rx
      · subst z
        have e0 : (List.replicate (1 : Int).toNat ds).flatten = ds := by simp
        rw [e0] at q
        exact q _ W H .refl S rx
    · cases e
  · cases e
theorem bin_ok : ∀ op : Operator, (∃ r, OpR X (binaryOp op) r ∧ Op2 X.K CA r (binD op))
  | .Add => add_ok
  | .Sub => sub_ok
  | .Mult => mul_ok
  | .FloorDiv => div_ok
  | .Mod => mod_ok
  | .Pow => pow_ok
  | .LShift => shl_ok
  | .MatMult => ⟨fun _ _ _ _ => False, fun _ _ _ _ _ _ _ _ _ _ _ _ h => h.elim, fun _ _ _ _ _ _ _ _ _ _ _ _ _ _ e => by cases e⟩
  | .Div => ⟨fun _ _ _ _ => False, fun _ _ _ _ _ _ _ _ _ _ _ _ h => h.elim, fun _ _ _ _ _ _ _ _ _ _ _ _ _ _ e => by cases e⟩
  | .RShift => ⟨fun _ _ _ _ => False, fun _ _ _ _ _ _ _ _ _ _ _ _ h => h.elim, fun _ _ _ _ _ _ _ _ _ _ _ _ _ _ e => by cases e⟩
  | .BitOr => ⟨fun _ _ _ _ => False, fun _ _ _ _ _ _ _ _ _ _ _ _ h => h.elim, fun _ _ _ _ _ _ _ _ _ _ _ _ _ _ e => by cases e⟩
  | .BitXor => ⟨fun _ _ _ _ => False, fun _ _ _ _ _ _ _ _ _ _ _ _ h => h.elim, fun _ _ _ _ _ _ _ _ _ _ _ _ _ _ e => by cases e⟩
  | .BitAnd => ⟨fun _ _ _ _ => False, fun _ _ _ _ _ _ _ _ _ _ _ _ h => h.elim, fun _ _ _ _ _ _ _ _ _ _ _ _ _ _ e => by cases e⟩
/-- truth -/
theorem Reps.empty {K : PySem.W.Frag} {F : Hp} {A : List Addr} {vs : List V} {ds : List D} (h : Reps K F A vs ds) : ds.isEmpty = vs.isEmpty := by
  cases h <;> rfl
theorem tru_of {K : PySem.W.Frag} {W : Wd} {σ : L2.St} {H : Hp} {env : Env} {obs : Obs} {v : V} {d : D} {k : Bool} (S : SRel K CA W σ H env obs) (r : W.rep K v d) (e : truD d = some k) : TruV K v H k := by
  unfold truD at e
  split at e
  · cases e; cases r; rfl
  · cases e; cases r; rfl
  · cases e; cases r; rfl
  · split at e
    · rename_i h; cases e; cases r; exact ⟨h, rfl⟩
    · cases e
  · cases e
    obtain ⟨p, vs, rfl, h1, r1⟩ := S.tup r
    exact .inr (.inl ⟨vs, h1, by rw [r1.empty]⟩)
  · cases e
    obtain ⟨p, vs, rfl, h1, r1⟩ := S.lst r
    exact .inl ⟨vs, SqL.of h1, by rw [r1.empty]⟩
  · cases e
    cases r with
    | dic h1 h2 h3 =>
      refine .inr (.inr ⟨_, S.fh _ _ h1, ?_⟩)
      rename_i ks p vs
      cases vs with
      | nil => cases ks with
        | nil => rfl
        | cons _ _ => simp at h2
      | cons _ _ => cases ks with
        | nil => simp at h2
        | cons _ _ => rfl
  · cases e
theorem Reps.atI {K : PySem.W.Frag} {F : Hp} {A : List Addr} {vs : List V} {ds : List D} (h : Reps K F A vs ds) {i : Int} {d : D} (e : L2.atI ds i = some d) : ∃ v, L2.atI vs i = some v ∧ Rep K F A v d := by
  unfold L2.atI at e ⊢
  rw [h.length]
  cases q : ixN ds.length i with
  | none => rw [q] at e; simp at e
  | some j =>
    rw [q] at e
    obtain ⟨v, a, b⟩ := h.get (i := j) e
    exact ⟨v, a, b⟩
theorem ix_ok : ∃ r, IxR X r ∧ Op2 X.K CA r ixD := by
  refine ⟨_, ix_seq, ?_⟩
  intro W σ H env obs x y a b d Q S rx ry e q
  unfold ixD at e
  split at e
  · cases ry
    obtain ⟨p, vs, rfl, h1, r1⟩ := S.lst rx
    obtain ⟨v, a1, a2⟩ := r1.atI e
    exact .inl ⟨p, vs, _, v, rfl, rfl, SqL.of h1, a1, q _ W H .refl S a2⟩
  · cases ry
    obtain ⟨p, vs, rfl, h1, r1⟩ := S.tup rx
    obtain ⟨v, a1, a2⟩ := r1.atI e
    exact .inr (.inl ⟨p, vs, _, v, rfl, rfl, h1, a1, q _ W H .refl S a2⟩)
  · split at e
    · rename_i h
      rw [Option.map_eq_some_iff] at e
      obtain ⟨c, e1, rfl⟩ := e
      cases rx; cases ry
      exact .inr (.inr ⟨_, _, c, rfl, rfl, h, e1, q _ W H .refl S (.str _)⟩)
    · cases e
  · cases e
/-- slices -/
theorem Reps.cut {K : PySem.W.Frag} {F : Hp} {A : List Addr} {vs : List V} {ds : List D} (h : Reps K F A vs ds) (lo hi : Option Int) : Reps K F A (cutV vs lo hi) (cutD ds lo hi) := by
  unfold cutV cutD
  rw [h.length]
  exact (h.drop _).take _
theorem cut_whole {ds : List D} {lo hi : Option Int} (h : HT.sIx ds.length 0 lo = 0 ∧ HT.sIx ds.length ds.length hi = ds.length) : cutD ds lo hi = ds := by
  unfold cutD
  rw [h.1, h.2]
  simp
theorem sl_ok : ∃ r, L2.SlR X r ∧ ∀ (W : Wd) (σ : L2.St) (H : Hp) (env : Env) (obs : Obs) (x : V) (a d : D) (lo hi : Option Int) (Q : V → Hp → Prop), SRel X.K CA W σ H env obs → W.rep X.K x a → slD a lo hi = some d →
    (∀ v W' H', W.leE W' H H' → SRel X.K CA W' σ H' env obs → W'.rep X.K v d → Q v H') → r x lo hi H Q := by
  refine ⟨_, L2.SlR.or sl_list (L2.SlR.or sl_tupA C8.sl_txt), ?_⟩
  intro W σ H env obs x a d lo hi Q S rx e q
  unfold slD at e
  split at e
  · cases e
    obtain ⟨p, vs, rfl, h1, r1⟩ := S.lst rx
    exact .inl ⟨p, vs, rfl, SqL.of h1, GP.lst S q (r1.cut _ _)⟩
  · cases e
    rename_i ds
    obtain ⟨p, vs, rfl, h1, r1⟩ := S.tup rx
    refine .inr (.inl ⟨p, vs, rfl, h1, fun z => ?_, fun _ => GP.tup S q (r1.cut _ _)⟩)
    rw [cut_whole (by rw [← r1.length]; exact z)] at q
    exact q _ W H .refl S rx
  · cases e
    cases rx with
    | loc h1 => exact .inl ⟨_, _, rfl, SqL.mono h1 S.fh, GP.lst S q ((Reps.ints _).cut _ _)⟩
  · split at e
    · rename_i h; cases e; cases rx
      exact .inr (.inr ⟨_, rfl, h, q _ W H .refl S (.str _)⟩)
    · cases e
  · cases e
/-! ### built-in functions -/
theorem len_ok : ∃ r, CallR X (.builtin "len") r ∧ Op1 X.K CA r (biD "len") := by
  refine ⟨_, CallR.or call_len call_lenD, ?_⟩
  intro W σ H env obs xs as d Q S rs e q
  cases rs with
  | nil => simp [biD] at e
  | cons r1 r2 =>
    cases r2 with
    | cons _ r3 => cases r3 <;> simp [biD] at e
    | nil =>
      simp only [biD, Option.map_eq_some_iff] at e
      obtain ⟨n, e, rfl⟩ := e
      unfold lenD at e
      split at e
      · split at e
        · rename_i h; cases e; cases r1
          exact .inl ⟨_, _, rfl, ⟨h, rfl⟩, q _ W H .refl S (.int _)⟩
        · cases e
      · cases e
        obtain ⟨p, vs, rfl, h1, r1⟩ := S.tup r1
        exact .inl ⟨_, vs.length, rfl, .inr ⟨vs, h1, rfl⟩, by rw [r1.length]; exact q _ W H .refl S (.int _)⟩
      · cases e
        obtain ⟨p, vs, rfl, h1, r1⟩ := S.lst r1
        exact .inl ⟨_, vs.length, rfl, .inl ⟨vs, SqL.of h1, rfl⟩, by rw [r1.length]; exact q _ W H .refl S (.int _)⟩
      · cases e
        cases r1 with
        | dic h1 h2 h3 =>
          rename_i ks p vs
          have hl : vs.length = ks.length := by
            have := congrArg List.length h2
            simpa using this
          exact .inr ⟨p, vs, rfl, S.fh _ _ h1, by rw [hl]; exact q _ W H .refl S (.int _)⟩
      · cases e
        cases r1 with
        | loc h1 =>
          rename_i ns p
          exact .inl ⟨_, ns.length, rfl, .inl ⟨_, SqL.mono h1 S.fh, by rw [List.length_map]⟩, q _ W H .refl S (.int _)⟩
      · cases e
theorem abs_ok : ∃ r, CallR X (.builtin "abs") r ∧ Op1 X.K CA r (biD "abs") := by
  refine ⟨_, call_abs, ?_⟩
  intro W σ H env obs xs as d Q S rs e q
  cases rs with
  | nil => simp [biD] at e
  | cons r1 r2 =>
    cases r2 with
    | cons _ r3 => cases r3 <;> simp [biD] at e
    | nil =>
      simp only [biD] at e
      split at e
      · cases e; cases r1
        exact ⟨_, rfl, q _ W H .refl S (.int _)⟩
      · cases e
theorem sum_ok (hc : X.calm = true) : ∃ r, CallR X (.builtin "sum") r ∧ Op1 X.K CA r (biD "sum") := by
  refine ⟨_, cr_sum hc, ?_⟩
  intro W σ H env obs xs as d Q S rs e q
  cases rs with
  | nil => simp [biD] at e
  | cons r1 r2 =>
    cases r2 with
    | cons _ r3 => cases r3 <;> simp [biD] at e
    | nil =>
      simp only [biD] at e
      split at e
      · rw [Option.map_eq_some_iff] at e
        obtain ⟨ns, e, rfl⟩ := e
        cases intsD_some e
        obtain ⟨p, vs, rfl, h1, r1⟩ := S.lst r1
        rw [r1.to_ints] at h1
        exact ⟨p, ns, rfl, SqL.of h1, q _ W H .refl S (.int _)⟩
      · cases e
theorem all_ok (hc : X.calm = true) : ∃ r, CallR X (.builtin "all") r ∧ Op1 X.K CA r (biD "all") := by
  refine ⟨_, cr_all hc, ?_⟩
  intro W σ H env obs xs as d Q S rs e q
  cases rs with
  | nil => simp [biD] at e
  | cons r1 r2 =>
    cases r2 with
    | cons _ r3 => cases r3 <;> simp [biD] at e
    | nil =>
      simp only [biD] at e
      split at e
      · rw [Option.map_eq_some_iff] at e
        obtain ⟨ns, e, rfl⟩ := e
        cases blsD_some e
        obtain ⟨p, vs, rfl, h1, r1⟩ := S.lst r1
        rw [r1.to_bls] at h1
        exact ⟨p, ns, rfl, SqL.of h1, q _ W H .refl S (.bl _)⟩
      · cases e
theorem any_ok (hc : X.calm = true) : ∃ r, CallR X (.builtin "any") r ∧ Op1 X.K CA r (biD "any") := by
  refine ⟨_, cr_any hc, ?_⟩
  intro W σ H env obs xs as d Q S rs e q
  cases rs with
  | nil => simp [biD] at e
  | cons r1 r2 =>
    cases r2 with
    | cons _ r3 => cases r3 <;> simp [biD] at e
    | nil =>
      simp only [biD] at e
      split at e
      · rw [Option.map_eq_some_iff] at e
        obtain ⟨ns, e, rfl⟩ := e
        cases blsD_some e
        obtain ⟨p, vs, rfl, h1, r1⟩ := S.lst r1
        rw [r1.to_bls] at h1
        exact ⟨p, ns, rfl, SqL.of h1, q _ W H .refl S (.bl _)⟩
      · cases e
theorem maxI_spec : ∀ (xs : List Int) (x m : Int), m ∈ x :: xs → (∀ y, y ∈ x :: xs → y ≤ m) → m = maxI x xs
  | [], x, m, h, _ => by simpa [maxI] using h
  | y :: ys, x, m, h, hm => by
    unfold maxI
    refine maxI_spec ys _ m ?_ ?_
    · have hx := hm x (by simp)
      have hy := hm y (by simp)
      by_cases c : y > x
      · rw [if_pos c]
        rcases List.mem_cons.mp h with e | e
        · omega
        · exact e
      · rw [if_neg c]
        rcases List.mem_cons.mp h with e | e
        · rw [e]; exact List.mem_cons_self
        · rcases List.mem_cons.mp e with e | e
          · have : m = x := by omega
            rw [this]; exact List.mem_cons_self
          · exact List.mem_cons_of_mem _ e
    · intro z hz
      rcases List.mem_cons.mp hz with e | e
      · subst e
        split
        · exact hm y (by simp)
        · exact hm x (by simp)
      · exact hm z (by simp [e])
theorem minI_spec : ∀ (xs : List Int) (x m : Int), m ∈ x :: xs → (∀ y, y ∈ x :: xs → m ≤ y) → m = minI x xs
  | [], x, m, h, _ => by simpa [minI] using h
  | y :: ys, x, m, h, hm => by
    unfold minI
    refine minI_spec ys _ m ?_ ?_
    · have hx := hm x (by simp)
      have hy := hm y (by simp)
      by_cases c : y < x
      · rw [if_pos c]
        rcases List.mem_cons.mp h with e | e
        · omega
        · exact e
      · rw [if_neg c]
        rcases List.mem_cons.mp h with e | e
        · rw [e]; exact List.mem_cons_self
        · rcases List.mem_cons.mp e with e | e
          · have : m = x := by omega
            rw [this]; exact List.mem_cons_self
          · exact List.mem_cons_of_mem _ e
    · intro z hz
      rcases List.mem_cons.mp hz with e | e
      · subst e
        split
        · exact hm y (by simp)
        · exact hm x (by simp)
      · exact hm z (by simp [e])
theorem max_ok (hc : X.calm = true) : ∃ r, CallR X (.builtin "max") r ∧ Op1 X.K CA r (biD "max") := by
  refine ⟨_, CallR.or (cr_max hc) (CallR.or (call_max2 hc) (cr_maxT hc)), ?_⟩
  intro W σ H env obs xs as d Q S rs e q
  cases rs with
  | nil => simp [biD] at e
  | cons r1 r2 =>
    cases r2 with
    | cons r2 r3 =>
      cases r3 with
      | cons _ r4 => cases r4 <;> simp [biD] at e
      | nil =>
        simp only [biD] at e
        split at e
        · cases e; cases r1; cases r2
          exact .inr (.inl ⟨_, _, rfl, q _ W H .refl S (.int _)⟩)
        · cases e
    | nil =>
      simp only [biD] at e
      split at e
      · split at e
        · rename_i y ys e1; cases e
          cases intsD_some e1
          obtain ⟨p, vs, rfl, h1, r1⟩ := S.lst r1
          rw [r1.to_ints] at h1
          refine .inl ⟨p, y :: ys, rfl, SqL.of h1, by simp, fun m hm hle => ?_⟩
          rw [maxI_spec ys y m hm hle]
          exact q _ W H .refl S (.int _)
        · cases e
      · split at e
        · rename_i y ys e1; cases e
          cases intsD_some e1
          obtain ⟨p, vs, rfl, h1, r1⟩ := S.tup r1
          rw [r1.to_ints] at h1
          refine .inr (.inr ⟨p, y :: ys, rfl, h1, by simp, fun m hm hle => ?_⟩)
          rw [maxI_spec ys y m hm hle]
          exact q _ W H .refl S (.int _)
        · cases e
      · cases e
theorem min_ok (hc : X.calm = true) : ∃ r, CallR X (.builtin "min") r ∧ Op1 X.K CA r (biD "min") := by
  refine ⟨_, CallR.or (cr_min hc) (CallR.or (call_min2 hc) (cr_minT hc)), ?_⟩
  intro W σ H env obs xs as d Q S rs e q
  cases rs with
  | nil => simp [biD] at e
  | cons r1 r2 =>
    cases r2 with
    | cons r2 r3 =>
      cases r3 with
      | cons _ r4 => cases r4 <;> simp [biD] at e
      | nil =>
        simp only [biD] at e
        split at e
        · cases e; cases r1; cases r2
          exact .inr (.inl ⟨_, _, rfl, q _ W H .refl S (.int _)⟩)
        · cases e
    | nil =>
      simp only [biD] at e
      split at e
      · split at e
        · rename_i y ys e1; cases e
          cases intsD_some e1
          obtain ⟨p, vs, rfl, h1, r1⟩ := S.lst r1
          rw [r1.to_ints] at h1
          refine .inl ⟨p, y :: ys, rfl, SqL.of h1, by simp, fun m hm hle => ?_⟩
          rw [minI_spec ys y m hm hle]
          exact q _ W H .refl S (.int _)
        · cases e
      · split at e
        · rename_i y ys e1; cases e
          cases intsD_some e1
          obtain ⟨p, vs, rfl, h1, r1⟩ := S.tup r1
          rw [r1.to_ints] at h1
          refine .inr (.inr ⟨p, y :: ys, rfl, h1, by simp, fun m hm hle => ?_⟩)
          rw [minI_spec ys y m hm hle]
          exact q _ W H .refl S (.int _)
        · cases e
      · cases e
theorem insI_perm (x : Int) : ∀ l : List Int, (insI x l).Perm (x :: l)
  | [] => .refl _
  | y :: ys => by
    unfold insI
    split
    · exact .refl _
    · exact ((insI_perm x ys).cons y).trans (.swap x y ys)
theorem sortI_perm : ∀ l : List Int, (sortI l).Perm l
  | [] => .refl _
  | x :: xs => (insI_perm x _).trans ((sortI_perm xs).cons x)
theorem insI_sorted (x : Int) : ∀ {l : List Int}, l.Pairwise (· ≤ ·) → (insI x l).Pairwise (· ≤ ·)
  | [], _ => by simp [insI]
  | y :: ys, h => by
    unfold insI
    rw [List.pairwise_cons] at h
    split
    · rename_i hx
      refine List.pairwise_cons.mpr ⟨fun z hz => ?_, List.pairwise_cons.mpr h⟩
      rcases List.mem_cons.mp hz with rfl | hz
      · exact hx
      · exact Int.le_trans hx (h.1 z hz)
    · rename_i hx
      refine List.pairwise_cons.mpr ⟨fun z hz => ?_, insI_sorted x h.2⟩
      rcases List.mem_cons.mp ((insI_perm x ys).mem_iff.mp hz) with rfl | hz
      · omega
      · exact h.1 z hz
theorem sortI_sorted : ∀ l : List Int, (sortI l).Pairwise (· ≤ ·)
  | [] => .nil
  | x :: xs => insI_sorted x (sortI_sorted xs)
theorem sort_eq {a b : List Int} (p : a.Perm b) (ha : a.Pairwise (· ≤ ·)) (hb : b.Pairwise (· ≤ ·)) : a = b :=
  p.eq_of_pairwise (fun x y _ _ h1 h2 => Int.le_antisymm h1 h2) ha hb
theorem sorted_ok : ∃ r, CallR X (.builtin "sorted") r ∧ Op1 X.K CA r (biD "sorted") := by
  refine ⟨_, cr_sortedI, ?_⟩
  intro W σ H env obs xs as d Q S rs e q
  cases rs with
  | nil => simp [biD] at e
  | cons r1 r2 =>
    cases r2 with
    | cons _ r3 => cases r3 <;> simp [biD] at e
    | nil =>
      simp only [biD] at e
      split at e
      · rw [Option.map_eq_some_iff] at e
        obtain ⟨ns, e, rfl⟩ := e
        cases intsD_some e
        obtain ⟨p, vs, rfl, h1, r1⟩ := S.lst r1
        rw [r1.to_ints] at h1
        refine ⟨p, ns, rfl, SqL.of h1, fun ms w hp hs hw => ?_⟩
        have e2 : ms = sortI ns := sort_eq (hp.trans (sortI_perm ns).symm) hs (sortI_sorted ns)
        subst e2
        exact GP.lst S q (Reps.ints _) w hw
      · cases e
theorem inuI_mem (x : Int) : ∀ (l : List Int) (k : Int), k ∈ inuI x l ↔ k = x ∨ k ∈ l
  | [], k => by simp [inuI]
  | y :: ys, k => by
    unfold inuI
    split
    · simp
    · split
      · rename_i h; subst h; simp
      · simp only [List.mem_cons, inuI_mem x ys k]
        constructor
        · rintro (h | h | h) <;> simp [h]
        · rintro (h | h | h) <;> simp [h]
theorem ssetI_mem : ∀ (l : List Int) (k : Int), k ∈ ssetI l ↔ k ∈ l
  | [], k => by simp [ssetI]
  | x :: xs, k => by unfold ssetI; rw [inuI_mem, ssetI_mem xs k, List.mem_cons]
theorem inuI_sorted (x : Int) : ∀ {l : List Int}, l.Pairwise (· < ·) → (inuI x l).Pairwise (· < ·)
  | [], _ => by simp [inuI]
  | y :: ys, h => by
    unfold inuI
    have h' := List.pairwise_cons.mp h
    split
    · rename_i hx
      refine List.pairwise_cons.mpr ⟨fun z hz => ?_, h⟩
      rcases List.mem_cons.mp hz with rfl | hz
      · exact hx
      · exact Int.lt_trans hx (h'.1 z hz)
    · split
      · exact h
      · refine List.pairwise_cons.mpr ⟨fun z hz => ?_, inuI_sorted x h'.2⟩
        rcases (inuI_mem x ys z).mp hz with rfl | hz
        · omega
        · exact h'.1 z hz
theorem ssetI_sorted : ∀ l : List Int, (ssetI l).Pairwise (· < ·)
  | [] => .nil
  | x :: xs => inuI_sorted x (ssetI_sorted xs)
theorem sset_eq {a ns : List Int} (ha : a.Pairwise (· < ·)) (h : ∀ k, k ∈ a ↔ k ∈ ns) : a = ssetI ns := by
  have n1 : a.Nodup := ha.imp fun h => Int.ne_of_lt h
  have n2 : (ssetI ns).Nodup := (ssetI_sorted ns).imp fun h => Int.ne_of_lt h
  have p : a.Perm (ssetI ns) := (List.perm_ext_iff_of_nodup n1 n2).mpr fun k => by rw [h k, ssetI_mem]
  exact p.eq_of_pairwise (fun x y _ _ h1 h2 => absurd h1 (by omega)) ha (ssetI_sorted ns)
theorem int_ok : ∃ r, CallR X (.type "int") r ∧ Op1 X.K CA r (biD "int") := by
  refine ⟨_, call_int1, ?_⟩
  intro W σ H env obs xs as d Q S rs e q
  cases rs with
  | nil => simp [biD] at e
  | cons r1 r2 =>
    cases r2 with
    | cons _ r3 => cases r3 <;> simp [biD] at e
    | nil =>
      simp only [biD] at e
      split at e
      · cases e; cases r1
        exact .inl ⟨_, rfl, q _ W H .refl S (.int _)⟩
      · cases e; cases r1
        exact .inr ⟨_, rfl, q _ W H .refl S (.int _)⟩
      · cases e
theorem str_ok : ∃ r, CallR X (.type "str") r ∧ Op1 X.K CA r (biD "str") := by
  refine ⟨_, call_str_int, ?_⟩
  intro W σ H env obs xs as d Q S rs e q
  cases rs with
  | nil => simp [biD] at e
  | cons r1 r2 =>
    cases r2 with
    | cons _ r3 => cases r3 <;> simp [biD] at e
    | nil =>
      simp only [biD] at e
      split at e
      · split at e
        · rename_i h; cases e; cases r1
          exact ⟨_, rfl, h, q _ W H .refl S (.str _)⟩
        · cases e
      · cases e
theorem tuple_ok : ∃ r, CallR X (.type "tuple") r ∧ Op1 X.K CA r (biD "tuple") := by
  refine ⟨_, call_tuple_of, ?_⟩
  intro W σ H env obs xs as d Q S rs e q
  cases rs with
  | nil => simp [biD] at e
  | cons r1 r2 =>
    cases r2 with
    | cons _ r3 => cases r3 <;> simp [biD] at e
    | nil =>
      simp only [biD] at e
      split at e
      · cases e
        obtain ⟨p, vs, rfl, h1, r1⟩ := S.lst r1
        exact ⟨p, vs, rfl, .inl ⟨SqL.of h1, GP.tup S q r1⟩⟩
      · cases e
        obtain ⟨p, vs, e1, h1, r2⟩ := S.tup r1
        subst e1
        exact ⟨p, vs, rfl, .inr ⟨h1, q _ W H .refl S r1⟩⟩
      · cases e
theorem list_ok : ∃ r, CallR X (.type "list") r ∧ Op1 X.K CA r (biD "list") := by
  refine ⟨_, call_list_of, ?_⟩
  intro W σ H env obs xs as d Q S rs e q
  cases rs with
  | nil => simp [biD] at e
  | cons r1 r2 =>
    cases r2 with
    | cons _ r3 => cases r3 <;> simp [biD] at e
    | nil =>
      simp only [biD] at e
      split at e
      · cases e
        obtain ⟨p, vs, rfl, h1, r1⟩ := S.lst r1
        exact ⟨p, vs, rfl, .inl (SqL.of h1), GP.lst S q r1⟩
      · cases e
        obtain ⟨p, vs, rfl, h1, r1⟩ := S.tup r1
        exact ⟨p, vs, rfl, .inr h1, GP.lst S q r1⟩
      · cases e
/-- isinstance with one built-in class of int, bool, str, tuple, list -/
def isiTs : List String := ["int", "bool", "str", "tuple", "list"]
theorem isi_ok {t : String} (ht : t ∈ isiTs) : ∃ r, CallR X (.builtin "isinstance") r ∧ ∀ (W : Wd) (σ : L2.St) (H : Hp) (env : Env) (obs : Obs) (x : V) (a : D) (k : Bool) (Q : V → Hp → Prop), SRel X.K CA W σ H env obs → W.rep X.K x a → isiD t a = some k → Q (.bl k) H → r [x, .ty t] H Q := by
  refine ⟨_, call_isi, ?_⟩
  intro W σ H env obs x a k Q S rx e q
  have hk : ∀ s ∈ (["NoneType", "bool", "int", "str", "tuple", "list"] : List String), ∀ t ∈ isiTs, (kitB s t).isSome = true := by decide +kernel
  have go : ∀ (s : String), s ∈ (["NoneType", "bool", "int", "str", "tuple", "list"] : List String) → TyX X.K H x (.type s) → (∀ b, kitB s t = some b → b = k) → rIsi X.K [x, .ty t] H Q := fun s hs ty hb => by
    cases z : kitB s t with
    | none => have := hk s hs t ht; rw [z] at this; cases this
    | some b =>
      have := hb b z; subst this
      exact ⟨x, .ty t, .type s, .type t, b, rfl, .ty t, ty, kit_ty z, q⟩
  cases rx with
  | non =>
    refine go "NoneType" (by decide) (.base .non) fun b z => ?_
    simp only [isiD, Option.some.injEq] at e; subst e
    clear q hk go
    revert b; revert ht; revert t; decide +kernel
  | bl c =>
    refine go "bool" (by decide) (.base (.bl c)) fun b z => ?_
    simp only [isiD, Option.some.injEq] at e; subst e
    clear q hk go
    revert b; revert ht; revert t; decide +kernel
  | int c =>
    refine go "int" (by decide) (.base (.int c)) fun b z => ?_
    simp only [isiD, Option.some.injEq] at e; subst e
    clear q hk go
    revert b; revert ht; revert t; decide +kernel
  | str c =>
    refine go "str" (by decide) (.base (.str c)) fun b z => ?_
    simp only [isiD, Option.some.injEq] at e; subst e
    clear q hk go
    revert b; revert ht; revert t; decide +kernel
  | ty n => simp [isiD] at e
  | tup h r =>
    refine go "tuple" (by decide) ?_ fun b z => ?_
    · rcases h with (h | ⟨o, h⟩) | ⟨o, its, n, hk, hc, _⟩
      · exact .base (.tup (S.fh _ _ h))
      · exact .fTuple (S.fh _ _ h)
      · exact .kTuple hk hc
    · simp only [isiD, Option.some.injEq] at e; subst e
      clear q hk go
      revert b; revert ht; revert t; decide +kernel
  | lst h r =>
    refine go "list" (by decide) (.base (.lst (S.fh _ _ h))) fun b z => ?_
    simp only [isiD, Option.some.injEq] at e; subst e
    clear q hk go
    revert b; revert ht; revert t; decide +kernel
  | loc _ => simp [isiD] at e
  | dic _ _ _ => simp [isiD] at e
  | obj _ => simp [isiD] at e
end
end Mp

set_option Elab.async false
set_option linter.all false
set_option maxRecDepth 100000
/-! Which terms of the model the small language's terms stand for; the parts of a proof that they mean the same. -/
namespace Mp
open PySem PySem.Spec PyProof.Rows L2

/-! ### which terms -/
def visB (sc : Scope) (x : Str) : Bool := match sc.names.lookup x with | some .local => true | some .cell => true | some .free => true | _ => false
def locB (sc : Scope) (x : Str) : Bool := match sc.names.lookup x with | some .local => true | some .cell => true | _ => false
def glB (sc : Scope) (x : Str) : Bool := match sc.names.lookup x with | some .globalImplicit => true | _ => false
def dbg (x : Str) : Bool := x == ("__debug__" : Str)
def isStar : Expr → Bool
  | .Starred _ _ => true | _ => false
def isSlice : Expr → Bool
  | .Slice _ _ _ _ => true | _ => false
def isSet : Expr → Bool
  | .Set _ _ _ => true | _ => false
def isCompr : Expr → Bool
  | .ListComp _ _ _ _ => true | .SetComp _ _ _ _ => true | .DictComp _ _ _ _ _ => true | _ => false
def isCallE : Expr → Bool
  | .Call _ _ _ _ => true | _ => false
def biB : List String := ["len", "abs", "sum", "all", "any", "max", "min", "sorted"]
/-- a shared list's methods -/
def oMs : List String := ["append", "extend", "pop"]
def biT : List String := ["int", "str", "tuple", "list"]
/-- the built-in class's methods that are read -/
def mthOk (T m : String) : Bool := T == "dict" && m == "get"
def chkNm1 (sc : Scope) (N : List Str) (own : List Nat) (i : Nat) : Expr → Bool
  | .Name x _ => decide (N[i]? = some x) && locB sc x && own.contains i
  | _ => false
def chkNm2 (sc : Scope) (N : List Str) (own : List Nat) : List Nat → List Expr → Bool
  | [], [] => true
  | i :: is, e :: es => chkNm1 sc N own i e && chkNm2 sc N own is es
  | _, _ => false
def chkT1 (sc : Scope) (N : List Str) (own : List Nat) : Nat ⊕ List Nat → Expr → Bool
  | .inl i, e => chkNm1 sc N own i e
  | .inr ts, .Tuple es _ _ => chkNm2 sc N own ts es
  | _, _ => false
def chkTt (sc : Scope) (N : List Str) (own : List Nat) : List (Nat ⊕ List Nat) → List Expr → Bool
  | [], [] => true
  | i :: is, e :: es => chkT1 sc N own i e && chkTt sc N own is es
  | _, _ => false
def chkTg (sc : Scope) (N : List Str) (own : List Nat) : Tg → Expr → Bool
  | .nm i, e => chkNm1 sc N own i e
  | .tp ts, .Tuple es _ _ => chkNm2 sc N own ts es
  | .tt ts, .Tuple es _ _ => chkTt sc N own ts es
  | _, _ => false
def isRevSl : Expr → Bool
  | .Slice none none (some (.UnaryOp .USub (.Constant (.int i) _ _) _)) _ => i == 1
  | _ => false
theorem isRevSl_ok {e : Expr} (h : isRevSl e = true) : ∃ k p1 p2 p3, e = .Slice none none (some (.UnaryOp .USub (.Constant (.int 1) k p1) p2)) p3 := by
  unfold isRevSl at h
  split at h
  · have := eq_of_beq h
    subst this
    exact ⟨_, _, _, _, rfl⟩
  · cases h
def baseB : Expr → Bool
  | .Name _ _ => true | .Subscript _ _ _ => true | .Attribute _ _ _ => true | _ => false
theorem base_ok {e : Expr} {m : Str} {env : PySem.Env} {r : Sem Value} (h : baseB e = true) : attributeBase e m env r = r := by
  cases e <;> first | rfl | (simp [baseB] at h)
section
variable (fs bs : List Str) (N : List Str)
mutual
def chkE : Scope → E → Expr → Bool
  | _, .lit .non, .Constant .none _ _ => true
  | _, .lit (.bl b), .Constant (.bool c) _ _ => b == c
  | _, .lit (.int b), .Constant (.int c) _ _ => b == c
  | _, .lit (.str b), .Constant (.str c) _ _ => b == c
  | sc, .var i, .Name x _ => decide (N[i]? = some x) && visB sc x && !dbg x && !(x == ("__classdict__" : Str))
  | sc, .glob y, .Name x _ => y == x && glB sc x && !dbg x
  | sc, .bin op a b, .BinOp a' op' b' _ => decide (op = op') && chkE sc a a' && chkE sc b b'
  | sc, .cmp op a b, .Compare a' ops bs' _ => match ops, bs' with
    | [op'], [b'] => decide (op = op') && chkE sc a a' && chkE sc b b' && !isSet b'
    | _, _ => false
  | sc, .chn o1 o2 a b c, .Compare a' ops bs' _ => match ops, bs' with
    | [o1', o2'], [b', c'] => decide (o1 = o1') && decide (o2 = o2') && chkE sc a a' && chkE sc b b' && chkE sc c c' && !isSet c'
    | _, _ => false
  | sc, .not a, .UnaryOp .Not a' _ => chkE sc a a'
  | sc, .neg a, .UnaryOp .USub a' _ => chkE sc a a'
  | sc, .con es, .BoolOp .And es' _ => chkEs sc es es'
  | sc, .dis es, .BoolOp .Or es' _ => chkEs sc es es'
  | sc, .ife c a b, .IfExp c' a' b' _ => chkE sc c c' && chkE sc a a' && chkE sc b b'
  | sc, .tup es, .Tuple es' _ _ => chkEs sc es es'
  | sc, .lst es, .List es' _ => chkEs sc es es'
  | sc, .ix a b, .Subscript a' b' _ => chkE sc a a' && chkE sc b b' && !isSlice b'
  | sc, .sl a lo hi, .Subscript a' (.Slice lo' hi' none _) _ => chkE sc a a' && chkO sc lo lo' && chkO sc hi hi'
  | sc, .rev a, .Subscript a' b' _ => isRevSl b' && chkE sc a a'
  | sc, .call f es, .Call (.Name x _) es' [] _ => f == x && glB sc x && !dbg x && fs.contains x && !es'.isEmpty && chkEs sc es es'
  | sc, .bi f es, .Call (.Name x _) es' [] _ => Str.ofString f == x && glB sc x && bs.contains x && (biB.contains f || biT.contains f) && !es'.isEmpty && chkEs sc es es'
  | sc, .isi a t, .Call (.Name x _) es' [] _ => match es' with
    | [a', .Name y _] => x == ("isinstance" : Str) && glB sc x && bs.contains x && isiTs.contains t && Str.ofString t == y && glB sc y && bs.contains y && chkE sc a a' && !isStar a'
    | _ => false
  | sc, .lc x tg it c own, .ListComp x' gs scope _ => match gs with
    | [⟨tg', it', ifs', 0⟩] => blkC N sc scope own && chkI sc it tg' it' && chkTg scope N (own.map (·.2)) tg tg' && chkC (relS scope sc) c ifs' && chkE (relS scope sc) x x'
    | _ => false
  | sc, .lc2 x tg it c tg1 it1 c1 own vs1, .ListComp x' gs scope _ => match gs with
    | [⟨tg', it', ifs', 0⟩, ⟨tg1', it1', ifs1', 0⟩] => blkC N sc scope own && chkI sc it tg' it' && chkTg scope N (own.map (·.2)) tg tg' && chkC (relS scope sc) c ifs' && chkI (relS scope sc) it1 tg1' it1' && chkTg scope N vs1 tg1 tg1' && vs1.all (fun v => (own.map (·.2)).contains v) && chkC (relS scope sc) c1 ifs1' && chkE (relS scope sc) x x'
    | _ => false
  | sc, .sset a, .Call (.Name x _) es' [] _ => match es' with
    | [.Call (.Name y _) es2 [] _] => x == ("sorted" : Str) && glB sc x && bs.contains x && y == ("set" : Str) && glB sc y && bs.contains y && (match es2 with
      | [a'] => chkE sc a a' && !isStar a'
      | _ => false)
    | _ => false
  | sc, .bor _ e, e' => chkE sc e e'
  | sc, .oix a b, .Subscript a' b' _ => chkE sc a a' && chkE sc b b' && !isSlice b'
  | sc, .olen a, .Call (.Name x _) es' [] _ => match es' with
    | [a'] => x == ("len" : Str) && glB sc x && bs.contains x && chkE sc a a' && !isStar a'
    | _ => false
  | sc, .olist a, .Call (.Name x _) es' [] _ => match es' with
    | [a'] => x == ("list" : Str) && glB sc x && bs.contains x && chkE sc a a' && !isStar a'
    | _ => false
  | sc, .onew es, .List es' _ => chkEs sc es es'
  | sc, .om m a e, .Call (.Attribute a' m' apos) es' [] cpos => match es' with
    | [e'] => Str.ofString m == m' && oMs.contains m && baseB a' && apos.endLine == cpos.line && chkE sc a a' && chkE sc e e' && !isStar e'
    | _ => false
  | _, _, _ => false
  termination_by structural _ m => m
def chkEs : Scope → Es → List Expr → Bool
  | _, .nil, [] => true
  | sc, .cons e r, e' :: r' => chkE sc e e' && !isStar e' && chkEs sc r r'
  | _, _, _ => false
  termination_by structural _ m => m
def chkO : Scope → Eo → Option Expr → Bool
  | _, .none, none => true
  | sc, .some e, some e' => chkE sc e e'
  | _, _, _ => false
  termination_by structural _ m => m
def chkC : Scope → Eo → List Expr → Bool
  | _, .none, [] => true
  | sc, .some e, [e'] => chkE sc e e'
  | _, _, _ => false
  termination_by structural _ m => m
def chkI : Scope → It → Expr → Expr → Bool
  | sc, .sq e, _, e' => chkE sc e e' && !isSet e'
  | sc, .r1 a, _, .Call (.Name x _) es' [] _ => match es' with
    | [a'] => x == ("range" : Str) && glB sc x && bs.contains x && chkE sc a a' && !isStar a'
    | _ => false
  | sc, .r2 a b, _, .Call (.Name x _) es' [] _ => match es' with
    | [a', b'] => x == ("range" : Str) && glB sc x && bs.contains x && chkE sc a a' && !isStar a' && chkE sc b b' && !isStar b'
    | _ => false
  | sc, .r3 a b c, _, .Call (.Name x _) es' [] _ => match es' with
    | [a', b', c'] => x == ("range" : Str) && glB sc x && bs.contains x && chkE sc a a' && !isStar a' && chkE sc b b' && !isStar b' && chkE sc c c' && !isStar c'
    | _ => false
  | sc, .en e, .Tuple _ _ _, .Call (.Name x _) es' [] _ => match es' with
    | [a'] => x == ("enumerate" : Str) && glB sc x && bs.contains x && chkE sc e a' && !isStar a'
    | _ => false
  | _, _, _, _ => false
  termination_by structural _ m => m
end
end

/-! ### a program's top -/
section
variable (K : PySem.W.Frag) (CA : Str → Option Addr)
/-- the promise of a def whose meaning is g -/
def spC (g : List D → Obs → R D) : Sp := fun vs H Q E => ∃ W obs ds, HRel K CA W H obs ∧ (∀ p r, W.ρ p = some r → r.loose = false) ∧ W.reps K vs ds ∧ match g ds obs with
  | .ok d o => ∀ v W' H', W.leS W' → HRel K CA W' H' o → W'.rep K v d → Q v H'
  | .ex c a o => ∀ cls dd W' H', W.leS W' → HRel K CA W' H' o → XR K CA W' H' cls dd c a → E cls dd H'
  | .bad => False
/-- an exception class with an __init__ that keeps a place, as it is needed to raise and to catch -/
structure ClsOk (P : Program) (w : World) (K : PySem.W.Frag) (mg : Str → Option Value) (base : Heap) (CA : Str → Option Addr) (c : Str) : Prop where
  ex : ∃ C fI fd, CA c = some C ∧ mg c = some (.ref C) ∧ OexC K C ∧ PySem.W.findIn K (.ref C) "__init__" = some (some (.ref fI)) ∧ PySem.W.typeIn K (.ref fI) = some (.type "function") ∧
    FnOk P w K mg base (L2.CX P w) 1 fI fd ["self", "place"] (spInit C) ∧ Binds K fd ["self", "place"] [] ∧ XfC K C ∧ PySem.W.findIn K (.ref C) "place" = some none ∧ PySem.W.exmOne K (.ref C) (.ref C) = some true
/-- the names of such classes among the built-in ones -/
def clsNm (c : Str) : Str := ("!" : Str) ++ c
/-- what a program's top has left, for calls of n defs one in another -/
structure Mo (P : Program) (w : World) (mg : Str → Option Value) (base : Heap) (fs bs : List Str) (G : Str → Option D) (Φ : Str → List D → Obs → R D) (n : Nat) : Prop where
  bi : ∀ x ∈ bs, mg x = none
  gl : ∀ x d, G x = some d → ∃ u v, mg x = some u ∧ RelV v u ∧ Rep K (fun _ => none) [] v d
  fn : ∀ f ∈ fs, ∃ a fd ps, FnOk P w K mg base (L2.CX P w) n a fd ps (spC K CA (Φ f)) ∧ mg f = some (.ref a) ∧ PySem.W.keepIn K (.ref a) = true ∧ Binds K fd ps []
  cl : ∀ c, clsNm c ∈ bs → ClsOk P w K mg base CA c
  two : 2 ≤ n
end
/-- where code stands -/
structure Ctx (CA : Str → Option Addr) (fs bs N : List Str) (G : Str → Option D) (Φ : Str → List D → Obs → R D) (n : Nat) (sc : Scope) (X : Cx) : Prop where
  hN : X.N = N
  nd : N.Nodup
  hsc : X.env.scope = sc
  calm : X.calm = true
  room : Room n X.A
  mo : Mo X.K CA X.prog X.w X.mg X.base fs bs G Φ n
theorem visB_ok {sc : Scope} {x : Str} (h : visB sc x = true) : Vis sc x := by
  unfold visB at h
  split at h
  · exact .inl ‹_›
  · exact .inr (.inl ‹_›)
  · exact .inr (.inr ‹_›)
  · cases h
theorem locB_ok {sc : Scope} {x : Str} (h : locB sc x = true) : Loc sc x := by
  unfold locB at h
  split at h
  · exact .inl ‹_›
  · exact .inr ‹_›
  · cases h
theorem glB_ok {X : Cx} {sc : Scope} {x : Str} (e : X.env.scope = sc) (h : glB sc x = true) : Gl X x := by
  subst e
  unfold glB at h
  split at h
  · rename_i e; exact e
  · cases h
theorem star_ok {e : Expr} {es : List Expr} {env : PySem.Env} (h : isStar e = false) : starEach (e :: es) env = (false, eval e env) :: starEach es env := by
  cases e <;> first | rfl | (simp [isStar] at h)
theorem behind_ok {op : CmpOp} {e : Expr} (h : isSet e = false) : behindInMarks op e = false := by
  cases e <;> first | rfl | (simp [isSet] at h)
theorem plainIx_ok {e : Expr} (h : isSlice e = false) : PlainIx e := fun o i => by
  cases e <;> first | rfl | (simp [isSlice] at h)
theorem folded_ok {e : Expr} {env : PySem.Env} (h : isSet e = false) : ∀ x, foldedSetIterable e env x = pure x := fun x => by
  cases e <;> first | rfl | (simp [isSet] at h)

section
variable {K : PySem.W.Frag} {CA : Str → Option Addr} {W0 : WX} {W W1 : Wd} {H H1 : Hp} {obs : Obs} {env : Env} {σ : L2.St}
/-- a call as its caller sees it -/
theorem call_of {g : List D → Obs → R D} {ds : List D} {vs : List V} {Q : V → Hp → Prop} (S : SRel K CA W σ H env obs) (r : W.reps K vs ds) (h : GP K CA W0 (relE K) W env σ H Q (g ds obs)) : spC K CA g vs H Q (WE W0 σ) := by
  let Wc : Wd := { W with ρ := fun p => match W.ρ p with | some r => if r.loose then (H p).map Role.keep else some r | none => none }
  have hc1 : ∀ p r, W.ρ p = some r → r.loose = false → Wc.ρ p = some r := fun p r e l => by
    show (match W.ρ p with | some r => if r.loose then (H p).map Role.keep else some r | none => none) = some r
    rw [e]; simp [l]
  have hc2 : ∀ p r, W.ρ p = some r → r.loose = true → ∃ o, H p = some o ∧ Wc.ρ p = some (.keep o) := fun p r e l => by
    obtain ⟨o, ho⟩ := S.h.live p r e
    refine ⟨o, ho, ?_⟩
    show (match W.ρ p with | some r => if r.loose then (H p).map Role.keep else some r | none => none) = _
    rw [e]; simp [l, ho]
  have hc3 : ∀ p r, Wc.ρ p = some r → (∃ r0, W.ρ p = some r0 ∧ r0.loose = true ∧ ∃ o, H p = some o ∧ r = .keep o) ∨ (W.ρ p = some r ∧ r.loose = false) := fun p r e => by
    have e' : (match W.ρ p with | some r => if r.loose then (H p).map Role.keep else some r | none => none) = some r := e
    cases q : W.ρ p with
    | none => rw [q] at e'; cases e'
    | some r0 =>
      rw [q] at e'
      cases l : r0.loose with
      | true =>
        obtain ⟨o, ho, _⟩ := hc2 p r0 q l
        simp [l, ho] at e'
        exact .inl ⟨r0, rfl, l, o, ho, e'.symm⟩
      | false =>
        simp [l] at e'; subst e'
        exact .inr ⟨rfl, l⟩
  have lo : W.leO Wc := ⟨fun p r e l => hc1 p r e (Role.solid_loose l), fun _ _ e => e⟩
  have Hc : HRel K CA Wc H obs := by
    refine ⟨fun p o e => ?_, fun p o e => ?_, fun p r e => ?_, S.h.len, fun n ob e => ?_⟩
    · rcases hc3 p _ e with ⟨_, _, _, o', _, z⟩ | ⟨q, _⟩
      · cases z
      · exact S.h.fro p o q
    · rcases hc3 p _ e with ⟨_, _, _, o', ho, z⟩ | ⟨q, _⟩
      · cases z; exact ho
      · exact S.h.keep p o q
    · rcases hc3 p r e with ⟨_, _, _, o', ho, _⟩ | ⟨q, _⟩
      · exact ⟨o', ho⟩
      · exact S.h.live p r q
    · obtain ⟨p, a1, a2, a3⟩ := S.h.obs n ob e
      exact ⟨p, a1, lo.r p _ a2 rfl, a3.mono lo a2 fun _ _ _ _ => rfl⟩
  have back : ∀ {W' : Wd} {H' : Hp} {o : Obs}, Wc.leS W' → HRel K CA W' H' o → ∃ W2, W.leE W2 H H' ∧ SRel K CA W2 σ H' env o ∧ W'.dle W2 := fun {W' H' o} l HR => by
    let W2 : Wd := { W' with ρ := fun p => match W.ρ p with | some r => if r.loose then some r else W'.ρ p | none => W'.ρ p }
    have h1 : ∀ p r, W.ρ p = some r → W2.ρ p = some r := fun p r e => by
      show (match W.ρ p with | some r => if r.loose then some r else W'.ρ p | none => W'.ρ p) = some r
      rw [e]
      cases q : r.loose with
      | true => simp [q]
      | false => simp [q]; exact l.r p r (hc1 p r e q) q
    have h2 : ∀ p r, W.ρ p = some r → r.loose = true → H' p = H p := fun p r e q => by
      obtain ⟨o, ho, hk⟩ := hc2 p r e q
      rw [ho]; exact HR.keep p o (l.r p _ hk rfl)
    have h3 : ∀ p r, W2.ρ p = some r → (W.ρ p = some r ∧ r.loose = true) ∨ (W'.ρ p = some r) := fun p r e => by
      have e' : (match W.ρ p with | some r => if r.loose then some r else W'.ρ p | none => W'.ρ p) = some r := e
      cases q : W.ρ p with
      | none => rw [q] at e'; exact .inr e'
      | some r0 =>
        rw [q] at e'
        cases z : r0.loose with
        | true => simp [z] at e'; subst e'; exact .inl ⟨rfl, z⟩
        | false => simp [z] at e'; exact .inr e'
    have h4 : W'.leO W2 := ⟨fun p r e q => (by
      show (match W.ρ p with | some r => if r.loose then some r else W'.ρ p | none => W'.ρ p) = some r
      cases z : W.ρ p with
      | none => exact e
      | some r0 =>
        cases y : r0.loose with
        | false => simp [y]; exact e
        | true =>
          obtain ⟨o, _, hk⟩ := hc2 p r0 z y
          have := l.r p _ hk rfl
          rw [e] at this; cases this; cases q), fun _ _ e => e⟩
    have le : W.leE W2 H H' := ⟨h1, h2, fun n p e => l.a n p e⟩
    refine ⟨W2, le, ⟨⟨fun p o e => ?_, fun p o e => ?_, fun p r e => ?_, HR.len, fun n ob e => ?_⟩, S.len, fun i s e => ?_⟩, h4.d⟩
    · rcases h3 p _ e with ⟨_, q⟩ | q
      · cases q
      · exact HR.fro p o q
    · rcases h3 p _ e with ⟨_, q⟩ | q
      · cases q
      · exact HR.keep p o q
    · rcases h3 p r e with ⟨q, z⟩ | q
      · obtain ⟨o, ho, _⟩ := hc2 p r q z
        exact ⟨o, by rw [h2 p r q z]; exact ho⟩
      · exact HR.live p r q
    · obtain ⟨p, a1, a2, a3⟩ := HR.obs n ob e
      exact ⟨p, a1, h4.r p _ a2 rfl, a3.mono h4 a2 fun _ _ _ _ => rfl⟩
    · exact SlR.mono le.d (fun p q => ⟨h1 p _ q, h2 p _ q rfl⟩) (S.sl i s e)
  refine ⟨Wc, obs, ds, Hc, fun p r e => ?_, lo.d.reps r, ?_⟩
  · rcases hc3 p r e with ⟨_, _, _, _, _, z⟩ | ⟨_, q⟩
    · subst z; rfl
    · exact q
  · cases q : g ds obs with
    | ok d o =>
      intro v W' H' l HR rv
      obtain ⟨W2, le, S2, dl⟩ := back l HR
      rw [q] at h
      exact h v W2 H' le S2 (dl.rep rv)
    | ex c a o =>
      intro cls dd W' H' l HR rx
      obtain ⟨W2, le, S2, dl⟩ := back l HR
      rw [q] at h
      refine h cls dd W2 H' le S2 ?_
      cases a with
      | non => exact rx
      | _ =>
        obtain ⟨C, d1, v, e1, e2, e3, e4, e5⟩ := rx
        exact ⟨C, d1, v, e1, e2, e3, e4, dl.rep e5⟩
    | bad => rw [q] at h; exact h
end
end Mp

set_option Elab.async false
set_option linter.all false
set_option maxRecDepth 100000
/-! What is walked; comprehensions. -/
namespace Mp
open PySem PySem.Spec PyProof.Rows L2

theorem PI.or {X : Cx} {tg it : Expr} {w w' : TI} (h : PI X tg it w) (h' : PI X tg it w') : PI X tg it (fun σ H R => w σ H R ∨ w' σ H R) :=
  ⟨fun pins s σ H R I q => q.elim (h.run pins s σ H R I) (h'.run pins s σ H R I)⟩
theorem PI.weak {X : Cx} {tg it : Expr} {t t' : TI} (h : PI X tg it t) (w : ∀ σ H Q, t' σ H Q → t σ H Q) : PI X tg it t' := ⟨fun pins s σ H Q I q => h.run pins s σ H Q I (w σ H Q q)⟩

section
variable (K : PySem.W.Frag) (CA : Str → Option Addr)
/-- an iterator that gives the data ds, one after another, whatever is done meanwhile -/
structure Wlk (W : Wd) (J : L2.It) (ds : List D) : Prop where
  go : ∀ (i : Nat) (d : D) (W2 : Wd) (σ : L2.St) (H2 : Hp) (env : Env) (o : Obs), W.leS W2 → SRel K CA W2 σ H2 env o → ds[i]? = some d → J.go i H2 ∧ ∀ x H3, J.yld i H2 x H3 → ∃ W3, W2.leE W3 H2 H3 ∧ SRel K CA W3 σ H3 env o ∧ W3.rep K x d
  stop : ∀ (i : Nat) (W2 : Wd) (σ : L2.St) (H2 : Hp) (env : Env) (o : Obs), W.leS W2 → SRel K CA W2 σ H2 env o → ds.length ≤ i → J.stop i H2
abbrev relI : Rl (List D) L2.It := fun _ W' _ J ds => Wlk K CA W' J ds
end
section
variable {K : PySem.W.Frag} {CA : Str → Option Addr}
theorem earlyI : Rl.Early (relI K CA) := fun _ _ _ _ _ _ _ _ _ h => h
theorem wlk_list {W : Wd} {a : Addr} {vs : List V} {ds : List D} (hF : W.F a = some (.lst vs)) (r : W.reps K vs ds) : Wlk K CA W (Itl K a) ds := by
  refine ⟨fun i d W2 σ H2 env o l S e => ?_, fun i W2 σ H2 env o l S e => ?_⟩
  · have h2 : H2 a = some (.lst vs) := S.h.fro a _ (l.r a _ (Wd.F_of.mp hF) rfl)
    obtain ⟨v, hv, rv⟩ := r.get e
    refine ⟨⟨vs, v, SqL.of h2, hv⟩, fun x H3 ⟨e3, hx⟩ => ?_⟩
    subst e3
    have := hx vs (SqL.of h2)
    rw [hv] at this; cases this
    exact ⟨W2, .refl, S, l.d.rep rv⟩
  · have h2 : H2 a = some (.lst vs) := S.h.fro a _ (l.r a _ (Wd.F_of.mp hF) rfl)
    exact ⟨vs, SqL.of h2, by rw [r.length]; exact e⟩
theorem wlk_tup {W : Wd} {a : Addr} {vs : List V} {ds : List D} (hF : SqT K W.F a vs) (r : W.reps K vs ds) : Wlk K CA W (Itt K a) ds := by
  refine ⟨fun i d W2 σ H2 env o l S e => ?_, fun i W2 σ H2 env o l S e => ?_⟩
  · have h2 : SqT K H2 a vs := SqT.mono hF fun p o q => S.h.fro p o (l.r p _ (Wd.F_of.mp q) rfl)
    obtain ⟨v, hv, rv⟩ := r.get e
    refine ⟨⟨vs, v, h2, hv⟩, fun x H3 ⟨e3, hx⟩ => ?_⟩
    subst e3
    have := hx vs h2
    rw [hv] at this; cases this
    exact ⟨W2, .refl, S, l.d.rep rv⟩
  · have h2 : SqT K H2 a vs := SqT.mono hF fun p o q => S.h.fro p o (l.r p _ (Wd.F_of.mp q) rfl)
    exact ⟨vs, h2, by rw [r.length]; exact e⟩
theorem rangeD_get {lo c : Int} {n i : Nat} {d : D} (e : (rangeD lo n c)[i]? = some d) : i < n ∧ d = .int (lo + (i : Nat) * c) := by
  unfold rangeD at e
  rw [List.getElem?_map] at e
  cases q : (List.range n)[i]? with
  | none => rw [q] at e; cases e
  | some j =>
    rw [q] at e
    have hj := List.getElem?_range (n := n) (i := i)
    obtain ⟨h1, h2⟩ := List.getElem?_eq_some_iff.mp q
    rw [List.length_range] at h1
    rw [List.getElem_range] at h2
    subst h2
    exact ⟨h1, (Option.some.inj e).symm⟩
theorem rangeD_length {lo c : Int} {n : Nat} : (rangeD lo n c).length = n := by simp [rangeD]
theorem wlk_range {W : Wd} {lo : Int} {n : Nat} : Wlk K CA W (Itr lo n) (rangeD lo n 1) := by
  refine ⟨fun i d W2 σ H2 env o l S e => ?_, fun i W2 σ H2 env o l S e => ?_⟩
  · obtain ⟨h1, h2⟩ := rangeD_get e
    refine ⟨h1, fun x H3 ⟨e3, hx⟩ => ?_⟩
    subst e3; subst hx; subst h2
    exact ⟨W2, .refl, S, by rw [Int.mul_one]; exact .int _⟩
  · rw [rangeD_length] at e; exact e
theorem wlk_rangeC {W : Wd} {lo c : Int} {n : Nat} : Wlk K CA W (Itc lo c n) (rangeD lo n c) := by
  refine ⟨fun i d W2 σ H2 env o l S e => ?_, fun i W2 σ H2 env o l S e => ?_⟩
  · obtain ⟨h1, h2⟩ := rangeD_get e
    refine ⟨h1, fun x H3 ⟨e3, hx⟩ => ?_⟩
    subst e3; subst hx; subst h2
    exact ⟨W2, .refl, S, .int _⟩
  · rw [rangeD_length] at e; exact e
theorem enumD_get {ds : List D} {i : Nat} {d : D} (e : (enumD ds)[i]? = some d) : ∃ x, ds[i]? = some x ∧ d = .tup [.int (i : Nat), x] := by
  unfold enumD at e
  rw [List.getElem?_map, List.getElem?_zipIdx] at e
  cases q : ds[i]? with
  | none => rw [q] at e; simp at e
  | some x =>
    rw [q] at e
    simp at e
    exact ⟨x, rfl, e.symm⟩
theorem wlk_enum {W : Wd} {a : Addr} {vs : List V} {ds : List D} (hF : W.F a = some (.lst vs)) (r : W.reps K vs ds) : Wlk K CA W (Ite K a) (enumD ds) := by
  refine ⟨fun i d W2 σ H2 env o l S e => ?_, fun i W2 σ H2 env o l S e => ?_⟩
  · have h2 : H2 a = some (.lst vs) := S.h.fro a _ (l.r a _ (Wd.F_of.mp hF) rfl)
    obtain ⟨y, hy, rfl⟩ := enumD_get e
    obtain ⟨v, hv, rv⟩ := r.get hy
    refine ⟨⟨vs, v, SqL.of h2, hv⟩, fun x H3 hx => ?_⟩
    obtain ⟨T, z, ex, hT, e3, hz⟩ := hx
    have := hz vs (SqL.of h2)
    rw [hv] at this; cases this
    subst e3; subst ex
    have n := S.h.fresh hT
    refine ⟨W2.put T (.fro (.tup [.int (i : Nat), v])), leE_add n, S.add hT (fun u e => by injection e with e; exact e.symm) (fun u e => nomatch e), .tup (.inl (.inl (Wd.F_of.mpr Wd.put_same))) (.cons (.int _) (.cons ?_ .nil))⟩
    exact (leE_add (H := H2) (o := .tup [.int (i : Nat), v]) n).d.rep (l.d.rep rv)
  · have h2 : H2 a = some (.lst vs) := S.h.fro a _ (l.r a _ (Wd.F_of.mp hF) rfl)
    exact ⟨vs, SqL.of h2, by rw [r.length]; simpa [enumD] using e⟩
theorem wlk_enumT {W : Wd} {a : Addr} {vs : List V} {ds : List D} (hF : SqT K W.F a vs) (r : W.reps K vs ds) : Wlk K CA W (IteT K a) (enumD ds) := by
  have up : ∀ {W2 : Wd} {H2 : Hp} {env : Env} {o : Obs} {σ : L2.St}, W.leS W2 → SRel K CA W2 σ H2 env o → SqT K H2 a vs := fun l S => SqT.mono hF fun p o q => S.h.fro p o (l.r p _ (Wd.F_of.mp q) rfl)
  refine ⟨fun i d W2 σ H2 env o l S e => ?_, fun i W2 σ H2 env o l S e => ⟨vs, up l S, by rw [r.length]; simpa [enumD] using e⟩⟩
  obtain ⟨y, hy, rfl⟩ := enumD_get e
  obtain ⟨v, hv, rv⟩ := r.get hy
  refine ⟨⟨vs, v, up l S, hv⟩, fun x H3 ⟨T, z, ex, hT, e3, hz⟩ => ?_⟩
  have := hz vs (up l S)
  rw [hv] at this; cases this
  subst e3; subst ex
  have n := S.h.fresh hT
  refine ⟨W2.put T (.fro (.tup [.int (i : Nat), v])), leE_add n, S.add hT (fun u e => by injection e with e; exact e.symm) (fun u e => nomatch e), .tup (.inl (.inl (Wd.F_of.mpr Wd.put_same))) (.cons (.int _) (.cons ?_ .nil))⟩
  exact (leE_add (H := H2) (o := .tup [.int (i : Nat), v]) n).d.rep (l.d.rep rv)
end

/-! ### slots wiped and set -/
theorem wipe_get {σ : L2.St} {i : Nat} {vs : List Nat} (h : i ∈ vs) (hi : i < σ.length) : (wipe σ vs)[i]? = some none := by
  induction vs with
  | nil => cases h
  | cons v vs ih =>
    unfold wipe
    by_cases e : v = i
    · subst e
      rw [List.getElem?_set_self (by rw [wipe_length]; exact hi)]
    · rw [List.getElem?_set_ne e]
      rcases List.mem_cons.mp h with q | q
      · exact absurd q.symm e
      · exact ih q
theorem wipe_eq {σ τ : L2.St} {vs : List Nat} (hl : τ.length = σ.length) (h : ∀ i, i ∉ vs → τ[i]? = σ[i]?) : wipe τ vs = wipe σ vs := by
  apply List.ext_getElem?
  intro i
  by_cases hi : i ∈ vs
  · by_cases hs : i < σ.length
    · rw [wipe_get hi hs, wipe_get hi (by rw [hl]; exact hs)]
    · rw [List.getElem?_eq_none (by rw [wipe_length]; omega), List.getElem?_eq_none (by rw [wipe_length]; omega)]
  · rw [wipe_out hi, wipe_out hi, h i hi]
theorem wipe_wipe (σ : L2.St) (vs : List Nat) : wipe (wipe σ vs) vs = wipe σ vs := wipe_eq (wipe_length _ _) fun i hi => wipe_out hi
theorem wipe_set {σ : L2.St} {i : Nat} {x : Option V} {vs : List Nat} (hi : i ∈ vs) : wipe (σ.set i x) vs = wipe σ vs := wipe_eq (by simp) fun j hj => by
  rw [List.getElem?_set_ne fun e => hj (by rw [← e]; exact hi)]
theorem wipeE_length (env : Env) : ∀ vs : List Nat, (wipeE env vs).length = env.length
  | [] => rfl
  | v :: vs => by unfold wipeE; rw [List.length_set, wipeE_length env vs]
theorem wipeE_out {env : Env} {i : Nat} : ∀ {vs : List Nat}, i ∉ vs → (wipeE env vs)[i]? = env[i]?
  | [], _ => rfl
  | v :: vs, h => by
    unfold wipeE
    rw [List.getElem?_set_ne fun e => h (by rw [e]; exact List.mem_cons_self)]
    exact wipeE_out fun q => h (List.mem_cons_of_mem _ q)
theorem wipeE_in {env : Env} {i : Nat} {s : Sl} : ∀ {vs : List Nat}, i ∈ vs → (wipeE env vs)[i]? = some s → s = .un
  | v :: vs, h, e => by
    unfold wipeE at e
    by_cases q : v = i
    · subst q
      rw [List.getElem?_set_self (by have := (List.getElem?_eq_some_iff.mp e).1; simpa [wipeE_length] using this)] at e
      exact (Option.some.inj e).symm
    · rw [List.getElem?_set_ne q] at e
      rcases List.mem_cons.mp h with z | z
      · exact absurd z.symm q
      · exact wipeE_in z e
section
variable {K : PySem.W.Frag} {CA : Str → Option Addr} {W : Wd} {σ : L2.St} {H : Hp} {env : Env} {obs : Obs}
theorem SRel.wipe (S : SRel K CA W σ H env obs) (vs : List Nat) : SRel K CA W (L2.wipe σ vs) H (wipeE env vs) obs :=
  S.weak (by rw [wipe_length, wipeE_length]; exact S.len) fun i s e => by
    by_cases hi : i ∈ vs
    · exact .inl (wipeE_in hi e)
    · rw [wipeE_out hi] at e
      exact .inr ⟨e, wipe_out hi⟩
/-- targets -/
def setV : List Nat → List V → L2.St → L2.St
  | i :: is, v :: vs, σ => setV is vs (σ.set i (some v))
  | _, _, σ => σ
theorem SRel.setTs : ∀ {ts : List Nat} {vs : List V} {ds : List D} {σ : L2.St} {env env' : Env}, SRel K CA W σ H env obs → W.reps K vs ds → setTs ts ds env = some env' → SRel K CA W (setV ts vs σ) H env' obs
  | [], _, _, _, _, _, S, .nil, e => by cases e; exact S
  | i :: is, v :: vs, d :: ds, σ, env, env', S, .cons r rs, e => by
    show SRel K CA W (setV is vs (σ.set i (some v))) H env' obs
    exact SRel.setTs (S.set (i := i) (s := .v d) ⟨v, rfl, r⟩) rs e
  | [], _, _, _, _, _, _, .cons _ _, e => by cases e
  | _ :: _, _, _, _, _, _, _, .nil, e => by cases e
theorem setV_wipe : ∀ {ts : List Nat} {vs : List V} {σ : L2.St} {own : List Nat}, (∀ i ∈ ts, i ∈ own) → L2.wipe (setV ts vs σ) own = L2.wipe σ own
  | [], _, _, _, _ => rfl
  | _ :: _, [], _, _, _ => rfl
  | i :: is, v :: vs, σ, own, h => by
    show L2.wipe (setV is vs (σ.set i (some v))) own = _
    rw [setV_wipe fun j hj => h j (List.mem_cons_of_mem _ hj), wipe_set (h i List.mem_cons_self)]
end
/-- the targets of a tuple -/
def gNms : List Nat → TGs
  | [] => gNil
  | i :: is => gCons (gName i) (gNms is)
theorem gNms_of : ∀ {ts : List Nat} {vs : List V} {σ : L2.St} {H : Hp} {Q : L2.St → Hp → Prop}, vs.length = ts.length → Q (setV ts vs σ) H → gNms ts vs σ H Q
  | [], [], _, _, _, _, q => ⟨rfl, q⟩
  | [], _ :: _, _, _, _, h, _ => by cases h
  | _ :: _, [], _, _, _, h, _ => by cases h
  | i :: is, v :: vs, _, _, _, h, q => ⟨v, vs, rfl, gNms_of (by simpa using h) q⟩
def gT1 (K : PySem.W.Frag) : Nat ⊕ List Nat → TG
  | .inl i => gName i
  | .inr ts => gTup K ts.length (gNms ts)
def gTt (K : PySem.W.Frag) : List (Nat ⊕ List Nat) → TGs
  | [] => gNil
  | t :: ts => gCons (gT1 K t) (gTt K ts)
def gTg (K : PySem.W.Frag) : Tg → TG
  | .nm i => gName i
  | .tp ts => gTup K ts.length (gNms ts)
  | .tt ts => gTup K ts.length (gTt K ts)
/-- the slots of a target -/
def slT1 : Nat ⊕ List Nat → List Nat
  | .inl i => [i]
  | .inr ts => ts
def slTt : List (Nat ⊕ List Nat) → List Nat
  | [] => []
  | t :: ts => slT1 t ++ slTt ts
def Tg.sl : Tg → List Nat
  | .nm i => [i]
  | .tp ts => ts
  | .tt ts => slTt ts
section
variable {X : Cx} {N : List Str} {sc : Scope}
abbrev LocOk (X : Cx) (sc : Scope) : Prop := ∀ x, locB sc x = true → Loc X.env.scope x ∧ (X.fn x = true ∨ X.env.scope.names.lookup x = some .local)
theorem pg_nm1 (hN : X.N = N) (nd : N.Nodup) (hsc : LocOk X sc) {own : List Nat} {i : Nat} {e : Expr} (h : chkNm1 sc N own i e = true) : PG X e (gName i) ∧ i ∈ own ∧ ∀ es, assignEach (e :: es) X.env = (false, assign e X.env) :: assignEach es X.env := by
  cases e with
  | Name x pos =>
    simp only [chkNm1, Bool.and_eq_true, decide_eq_true_eq] at h
    obtain ⟨⟨a, b⟩, c⟩ := h
    obtain ⟨l1, l2⟩ := hsc x b
    exact ⟨pg_name (by rw [hN]; exact nd) (by rw [hN]; exact a) l1 l2, by simpa using c, fun _ => rfl⟩
  | _ => simp [chkNm1] at h
theorem pg_nm2 (hN : X.N = N) (nd : N.Nodup) (hsc : LocOk X sc) {own : List Nat} : ∀ {ts : List Nat} {es : List Expr}, chkNm2 sc N own ts es = true →
    PGs X es (gNms ts) ∧ (∀ i ∈ ts, i ∈ own) ∧ (assignEach es X.env).length = ts.length ∧ (assignEach es X.env).findIdx? (·.1) = none
  | [], [], _ => ⟨pgs_nil, by simp, rfl, rfl⟩
  | [], _ :: _, h => by simp [chkNm2] at h
  | _ :: _, [], h => by simp [chkNm2] at h
  | t :: ts, e :: es, h => by
    simp only [chkNm2, Bool.and_eq_true] at h
    obtain ⟨h1, h2, h3, h4⟩ := pg_nm2 hN nd hsc h.2
    obtain ⟨g1, g2, g3⟩ := pg_nm1 hN nd hsc h.1
    refine ⟨pgs_cons g1 h1 (by rw [g3 es]; rfl), ?_, ?_, ?_⟩
    · intro i hi
      rcases List.mem_cons.mp hi with rfl | hi
      · exact g2
      · exact h2 i hi
    · rw [g3 es, List.length_cons, h3]; rfl
    · rw [g3 es, List.findIdx?_cons]
      simp [h4]
theorem pg_t1 (hN : X.N = N) (nd : N.Nodup) (hc : X.calm = true) (hsc : LocOk X sc) {own : List Nat} {t : Nat ⊕ List Nat} {e : Expr} (h : chkT1 sc N own t e = true) : PG X e (gT1 X.K t) ∧ (∀ i ∈ slT1 t, i ∈ own) ∧ ∀ es, assignEach (e :: es) X.env = (false, assign e X.env) :: assignEach es X.env := by
  cases t with
  | inl i =>
    obtain ⟨g1, g2, g3⟩ := pg_nm1 hN nd hsc (by simpa only [chkT1] using h)
    refine ⟨g1, ?_, g3⟩
    intro j hj
    simp only [slT1, List.mem_singleton] at hj
    subst hj; exact g2
  | inr ts =>
    cases e with
    | Tuple es k pos =>
      obtain ⟨h1, h2, h3, h4⟩ := pg_nm2 hN nd hsc (by simpa only [chkT1] using h)
      exact ⟨pg_tup hc h1 h3 h4, h2, fun _ => rfl⟩
    | _ => simp [chkT1] at h
theorem pg_tt (hN : X.N = N) (nd : N.Nodup) (hc : X.calm = true) (hsc : LocOk X sc) {own : List Nat} : ∀ {ts : List (Nat ⊕ List Nat)} {es : List Expr}, chkTt sc N own ts es = true →
    PGs X es (gTt X.K ts) ∧ (∀ i ∈ slTt ts, i ∈ own) ∧ (assignEach es X.env).length = ts.length ∧ (assignEach es X.env).findIdx? (·.1) = none
  | [], [], _ => ⟨pgs_nil, by simp [slTt], rfl, rfl⟩
  | [], _ :: _, h => by simp [chkTt] at h
  | _ :: _, [], h => by simp [chkTt] at h
  | t :: ts, e :: es, h => by
    simp only [chkTt, Bool.and_eq_true] at h
    obtain ⟨h1, h2, h3, h4⟩ := pg_tt hN nd hc hsc h.2
    obtain ⟨g1, g2, g3⟩ := pg_t1 hN nd hc hsc h.1
    refine ⟨pgs_cons g1 h1 (by rw [g3 es]; rfl), ?_, ?_, ?_⟩
    · intro i hi
      rcases List.mem_append.mp hi with hi | hi
      · exact g2 i hi
      · exact h2 i hi
    · rw [g3 es, List.length_cons, h3]; rfl
    · rw [g3 es, List.findIdx?_cons]
      simp [h4]
theorem pg_of (hN : X.N = N) (nd : N.Nodup) (hc : X.calm = true) (hsc : LocOk X sc) {own : List Nat} {tg : Tg} {e : Expr} (h : chkTg sc N own tg e = true) :
    PG X e (gTg X.K tg) ∧ ∀ i ∈ tg.sl, i ∈ own := by
  cases tg with
  | nm i =>
    obtain ⟨g1, g2, _⟩ := pg_nm1 hN nd hsc (by simpa only [chkTg] using h)
    refine ⟨g1, ?_⟩
    intro j hj
    simp only [Tg.sl, List.mem_singleton] at hj
    subst hj; exact g2
  | tp ts =>
    cases e with
    | Tuple es k pos =>
      obtain ⟨h1, h2, h3, h4⟩ := pg_nm2 hN nd hsc (by simpa only [chkTg] using h)
      exact ⟨pg_tup hc h1 h3 h4, h2⟩
    | _ => simp [chkTg] at h
  | tt ts =>
    cases e with
    | Tuple es k pos =>
      obtain ⟨h1, h2, h3, h4⟩ := pg_tt hN nd hc hsc (by simpa only [chkTg] using h)
      exact ⟨pg_tup hc h1 h3 h4, h2⟩
    | _ => simp [chkTg] at h
end
/-- the state behind a store: only these slots are other -/
def SameBut (σ σ' : L2.St) (is : List Nat) : Prop := σ'.length = σ.length ∧ ∀ i, i ∉ is → σ'[i]? = σ[i]?
theorem SameBut.wipe {σ σ' : L2.St} {is own : List Nat} (h : SameBut σ σ' is) (s : ∀ i ∈ is, i ∈ own) : L2.wipe σ' own = L2.wipe σ own := wipe_eq h.1 fun i hi => h.2 i fun z => hi (s i z)
theorem SameBut.refl {σ : L2.St} {is : List Nat} : SameBut σ σ is := ⟨rfl, fun _ _ => rfl⟩
theorem SameBut.set {σ : L2.St} {i : Nat} {x : Option V} : SameBut σ (σ.set i x) [i] := ⟨by simp, fun j hj => by rw [List.getElem?_set_ne fun e => hj (by rw [e]; exact List.mem_singleton.mpr rfl)]⟩
theorem SameBut.trans {σ σ1 σ2 : L2.St} {a b : List Nat} (h : SameBut σ σ1 a) (g : SameBut σ1 σ2 b) : SameBut σ σ2 (a ++ b) := ⟨g.1.trans h.1, fun i hi => by
  rw [List.mem_append, not_or] at hi
  exact (g.2 i hi.2).trans (h.2 i hi.1)⟩
theorem SameBut.setV : ∀ {ts : List Nat} {vs : List V} {σ : L2.St}, SameBut σ (setV ts vs σ) ts
  | [], _, _ => .refl
  | _ :: _, [], _ => .refl
  | i :: is, v :: vs, σ => by
    show SameBut σ (Mp.setV is vs (σ.set i (some v))) ([i] ++ is)
    exact SameBut.set.trans SameBut.setV
section
variable {K : PySem.W.Frag} {CA : Str → Option Addr} {W : Wd} {σ : L2.St} {H : Hp} {env : Env} {obs : Obs}
theorem t1_of {t : Nat ⊕ List Nat} {v : V} {d : D} {env' : Env} {Q : L2.St → Hp → Prop} (S : SRel K CA W σ H env obs) (r : W.rep K v d) (e : setT1 t d env = some env')
    (q : ∀ σ', SRel K CA W σ' H env' obs → SameBut σ σ' (slT1 t) → Q σ' H) : gT1 K t v σ H Q := by
  cases t with
  | inl i =>
    cases e
    exact q _ (S.set (s := .v d) ⟨v, rfl, r⟩) .set
  | inr ts =>
    unfold setT1 at e
    cases d with
    | tup ds =>
      simp only at e
      split at e
      · rename_i hl
        obtain ⟨p, vs, rfl, h1, r1⟩ := S.tup r
        exact ⟨p, vs, rfl, h1, by rw [r1.length]; exact hl, gNms_of (by rw [r1.length]; exact hl) (q _ (S.setTs r1 e) .setV)⟩
      · cases e
    | _ => cases e
theorem tt_of : ∀ {ts : List (Nat ⊕ List Nat)} {vs : List V} {ds : List D} {σ : L2.St} {env env' : Env} {Q : L2.St → Hp → Prop}, SRel K CA W σ H env obs → W.reps K vs ds → setTt ts ds env = some env' →
    (∀ σ', SRel K CA W σ' H env' obs → SameBut σ σ' (slTt ts) → Q σ' H) → gTt K ts vs σ H Q
  | [], [], [], σ, env, env', Q, S, _, e, q => by cases e; exact ⟨rfl, q σ S .refl⟩
  | t :: ts, v :: vs, d :: ds, σ, env, env', Q, S, .cons r rs, e, q => by
    unfold setTt at e
    rw [Option.bind_eq_some_iff] at e
    obtain ⟨env1, e1, e2⟩ := e
    refine ⟨v, vs, rfl, t1_of S r e1 fun σ1 S1 b1 => ?_⟩
    exact tt_of S1 rs e2 fun σ2 S2 b2 => q σ2 S2 (b1.trans b2)
  | [], _ :: _, _ :: _, _, _, _, _, _, _, e, _ => by cases e
  | _ :: _, [], [], _, _, _, _, _, _, e, _ => by cases e
/-- a target is stored to -/
theorem tg_of {tg : Tg} {v : V} {d : D} {env' : Env} {Q : L2.St → Hp → Prop} (S : SRel K CA W σ H env obs) (r : W.rep K v d) (e : setTg tg d env = some env')
    (q : ∀ σ', SRel K CA W σ' H env' obs → SameBut σ σ' tg.sl → Q σ' H) : gTg K tg v σ H Q := by
  cases tg with
  | nm i =>
    cases e
    exact q _ (S.set (s := .v d) ⟨v, rfl, r⟩) .set
  | tp ts =>
    unfold setTg at e
    cases d with
    | tup ds =>
      simp only at e
      split at e
      · rename_i hl
        obtain ⟨p, vs, rfl, h1, r1⟩ := S.tup r
        exact ⟨p, vs, rfl, h1, by rw [r1.length]; exact hl, gNms_of (by rw [r1.length]; exact hl) (q _ (S.setTs r1 e) .setV)⟩
      · cases e
    | _ => cases e
  | tt ts =>
    unfold setTg at e
    cases d with
    | tup ds =>
      simp only at e
      split at e
      · rename_i hl
        obtain ⟨p, vs, rfl, h1, r1⟩ := S.tup r
        exact ⟨p, vs, rfl, h1, by rw [r1.length]; exact hl, tt_of S r1 e q⟩
      · cases e
    | _ => cases e
/-- a list that is made grows -/
theorem SRel.grow {p : Addr} {xs ys : List V} (S : SRel K CA W σ H env obs) (hr : W.ρ p = some .acc) : SRel K CA W σ (upd H p (.lst ys)) env obs := by
  have ne : ∀ q r', W.ρ q = some r' → r' ≠ .acc → q ≠ p := fun q r' e l z => by rw [z, hr] at e; cases e; exact l rfl
  refine ⟨⟨fun q u e => ?_, fun q u e => ?_, fun q u e => ?_, S.h.len, fun n ob e => ?_⟩, S.len, fun j t e => ?_⟩
  · rw [upd_ne (ne q _ e (by simp))]; exact S.h.fro q u e
  · rw [upd_ne (ne q _ e (by simp))]; exact S.h.keep q u e
  · by_cases hq : q = p
    · subst hq; exact ⟨_, upd_same⟩
    · rw [upd_ne hq]; exact S.h.live q u e
  · obtain ⟨q, a1, a2, a3⟩ := S.h.obs n ob e
    refine ⟨q, a1, a2, a3.mono Wd.leS.refl.o a2 fun q r z hz => upd_ne (ne q r z ?_)⟩
    rcases hz with rfl | rfl <;> simp
  · exact SlR.mono .refl (fun q z => ⟨z, upd_ne (ne q _ z (by simp))⟩) (S.sl j t e)
end
/-- THE COMPREHENSION: the reading of [elt for tg in it if c] from the data's -/
theorem lc_of {K : PySem.W.Frag} {CA : Str → Option Addr} {W0 : WX} {di : Env → Obs → R (List D)} {t : Env → Obs → R Bool} {x : Env → Obs → R D} {own : List Nat} {tg : Tg} {σ : L2.St} {H : Hp} {Q : V → Hp → Prop} (ht : ∀ i ∈ tg.sl, i ∈ own)
    (h : LF K CA W0 (fun env o => (di env o).bind fun ds o => lcD own tg t x env ds [] o) σ H Q) :
    tLc (LG K CA W0 (relI K CA) di) (gTg K tg) (LT K CA (fun _ _ _ _ => False) t) (LE K CA (fun _ _ _ _ => False) x) own σ H Q := by
  obtain ⟨W, env, obs, S, h⟩ := h
  refine LG.bnd earlyF S h fun ds o1 J W1 H1 l1 S1 wk h1 => ?_
  intro Dd hD
  have hn := S1.h.fresh hD
  let inv : Nat → Nat → Hp → Prop := fun i m H' => m = ds.length - i ∧ ∃ Wd acc vs o, W1.leE Wd H1 H' ∧ SRel K CA Wd σ H' env o ∧ Wd.ρ Dd = some .acc ∧ H' Dd = some (.lst vs) ∧ Wd.reps K vs acc ∧
    GP K CA W0 (relF K) W1 env σ H1 Q (lcD own tg t x env (ds.drop i) acc o)
  refine ⟨inv, ⟨ds.length, by simp, W1.put Dd .acc, [], [], o1, leE_add hn, S1.add hD (fun u e => nomatch e) (fun u e => nomatch e), Wd.put_same, upd_same, .nil, by rw [List.drop_zero]; exact h1⟩, ?_⟩
  rintro i m H2 ⟨rfl, Wd, acc, vs, o, le, S2, ra, ha, rs, g⟩
  cases hd : ds.drop i with
  | nil =>
    rw [hd] at g
    have hlen : ds.length ≤ i := List.drop_eq_nil_iff.mp hd
    exact .inl ⟨wk.stop i Wd σ H2 env o le.s S2 hlen, g (.ref Dd) Wd H2 le S2 ⟨Dd, vs, rfl, hn, ra, ha, rs⟩⟩
  | cons d rest =>
    rw [hd] at g
    have hil : i < ds.length := by
      apply Nat.lt_of_not_le
      intro q
      rw [List.drop_eq_nil_of_le q] at hd; cases hd
    have hdi : ds[i]? = some d := by
      have := List.getElem?_drop (xs := ds) (i := i) (j := 0)
      rw [hd] at this; simpa using this.symm
    have hrest : ds.drop (i + 1) = rest := by
      have := List.drop_drop (i := 1) (j := i) (l := ds)
      rw [hd] at this; simpa [Nat.add_comm] using this.symm
    obtain ⟨hgo, hy⟩ := wk.go i d Wd σ H2 env o le.s S2 hdi
    refine .inr ⟨hgo, fun H' => inv (i + 1) (ds.length - (i + 1)) H', fun H' q => ⟨ds.length - (i + 1), by omega, q⟩, fun v H3 y3 => ?_⟩
    obtain ⟨W3, le3, S3, rv⟩ := hy v H3 y3
    have ra3 : W3.ρ Dd = some .acc := le3.r _ _ ra
    have ha3 : H3 Dd = some (.lst vs) := (le3.o _ _ ra rfl).trans ha
    unfold lcD at g
    cases es : setTg tg d (wipeE env own) with
    | none => rw [es] at g; exact g.elim
    | some env' =>
      rw [es] at g
      simp only at g
      refine tg_of (S3.wipe own) rv es fun σ' S4 sb => ?_
      have wp : L2.wipe σ' own = L2.wipe σ own := by rw [sb.wipe ht, wipe_wipe]
      refine ⟨wp, W3, env', o, S4, ?_⟩
      have backS : ∀ {W' : Mp.Wd} {H' : Hp} {o' : Obs} , W3.leE W' H3 H' → SRel K CA W' σ' H' env' o' → SRel K CA W' σ H' env o' := fun {W' H' o'} l S' =>
        ⟨S'.h, S3.len, fun j s e => SlR.mono l.d (fun p z => ⟨l.r p _ z, l.o p _ z rfl⟩) (S3.sl j s e)⟩
      cases et : t env' o with
      | bad => rw [et] at g; exact g.elim
      | ex c a o' => rw [et] at g; exact g.elim
      | ok b o2 =>
        rw [et] at g
        intro b' W4 H4 l4 S5 hb
        have hb : b' = b := hb
        subst hb
        cases b' with
        | false =>
          simp only [Bool.false_eq_true, if_false, R.noex_ok, R.bind_ok] at g ⊢
          have S6 := backS l4 S5
          exact ⟨rfl, W4, acc, vs, o2, le.trans (le3.trans l4), S6, l4.r _ _ ra3, (l4.o _ _ ra3 rfl).trans ha3, (le3.trans l4).d.reps rs, by rw [hrest]; exact g⟩
        | true =>
          simp only [if_true, R.noex_ok, R.bind_ok] at g ⊢
          refine ⟨W4, env', o2, S5, ?_⟩
          cases ex' : x env' o2 with
          | bad => rw [ex'] at g; exact g.elim
          | ex c a o' => rw [ex'] at g; exact g.elim
          | ok y o3 =>
            rw [ex'] at g
            simp only [R.noex_ok, R.bind_ok] at g
            intro yv W5 H5 l5 S6 ry
            have S7 := backS (l4.trans l5) S6
            have ra5 := (l4.trans l5).r _ _ ra3
            have ha5 : H5 Dd = some (.lst vs) := ((l4.trans l5).o _ _ ra3 rfl).trans ha3
            split at g
            · rename_i hlt
              refine ⟨vs, ha5, by rw [rs.length]; exact hlt, rfl, W5, acc ++ [y], vs ++ [yv], o3, ?_, S7.grow (xs := vs) ra5, ra5, upd_same, ((le3.trans (l4.trans l5)).d.reps rs).append (Reps.one ry), by rw [hrest]; exact g⟩
              have l6 := le.trans (le3.trans (l4.trans l5))
              exact ⟨l6.r, fun p r e lo => by rw [upd_ne (fun z => by rw [z, hn] at e; cases e)]; exact l6.o p r e lo, l6.a⟩
            · exact g.elim
/-- the state behind a store in a comprehension's block: as it was ahead, at the block's end -/
theorem back_to {K : PySem.W.Frag} {CA : Str → Option Addr} {W3 W' : Wd} {H3 H' : Hp} {σ σ' : L2.St} {env env' : Env} {o o' : Obs} (S3 : SRel K CA W3 σ H3 env o) (l : W3.leE W' H3 H') (S' : SRel K CA W' σ' H' env' o') : SRel K CA W' σ H' env o' :=
  ⟨S'.h, S3.len, fun j s e => SlR.mono l.d (fun p z => ⟨l.r p _ z, l.o p _ z rfl⟩) (S3.sl j s e)⟩
theorem drop_cons {α : Type} {ds rest : List α} {d : α} {i : Nat} (hd : ds.drop i = d :: rest) : i < ds.length ∧ ds[i]? = some d ∧ ds.drop (i + 1) = rest := by
  refine ⟨?_, ?_, ?_⟩
  · apply Nat.lt_of_not_le
    intro q
    rw [List.drop_eq_nil_of_le q] at hd; cases hd
  · have := List.getElem?_drop (xs := ds) (i := i) (j := 0)
    rw [hd] at this; simpa using this.symm
  · have := List.drop_drop (i := 1) (j := i) (l := ds)
    rw [hd] at this; simpa [Nat.add_comm] using this.symm
theorem leE_grow {W W' : Wd} {H H' : Hp} {p : Addr} {o : HO} (l : W.leE W' H H') (hn : W.ρ p = none) : W.leE W' H (upd H' p o) :=
  ⟨l.r, fun q r e lo => by rw [upd_ne (fun z => by rw [z, hn] at e; cases e)]; exact l.o q r e lo, l.a⟩
/-- THE COMPREHENSION with two fors -/
theorem lc2_of {K : PySem.W.Frag} {CA : Str → Option Addr} {W0 : WX} {di di1 : Env → Obs → R (List D)} {t t1 : Env → Obs → R Bool} {x : Env → Obs → R D} {own vs1 : List Nat} {tg tg1 : Tg} {σ : L2.St} {H : Hp} {Q : V → Hp → Prop} (ht : ∀ i ∈ tg.sl, i ∈ own) (ht1 : ∀ i ∈ tg1.sl, i ∈ vs1)
    (h : LF K CA W0 (fun env o => (di env o).bind fun ds o => lc2D own vs1 tg t di1 tg1 t1 x env ds [] o) σ H Q) :
    tLc2 (LG K CA W0 (relI K CA) di) (gTg K tg) (LT K CA (fun _ _ _ _ => False) t) (LG K CA (fun _ _ _ _ => False) (relI K CA) di1) (gTg K tg1) (LT K CA (fun _ _ _ _ => False) t1) (LE K CA (fun _ _ _ _ => False) x) own vs1 σ H Q := by
  obtain ⟨W, env, obs, S, h⟩ := h
  refine LG.bnd earlyF S h fun ds o1 J W1 H1 l1 S1 wk h1 => ?_
  intro Dd hD
  have hn := S1.h.fresh hD
  let inv : Nat → Nat → Hp → Prop := fun i m H' => m = ds.length - i ∧ ∃ Wd acc vs o, W1.leE Wd H1 H' ∧ SRel K CA Wd σ H' env o ∧ Wd.ρ Dd = some .acc ∧ H' Dd = some (.lst vs) ∧ Wd.reps K vs acc ∧
    GP K CA W0 (relF K) W1 env σ H1 Q (lc2D own vs1 tg t di1 tg1 t1 x env (ds.drop i) acc o)
  refine ⟨inv, ⟨ds.length, by simp, W1.put Dd .acc, [], [], o1, leE_add hn, S1.add hD (fun u e => nomatch e) (fun u e => nomatch e), Wd.put_same, upd_same, .nil, by rw [List.drop_zero]; exact h1⟩, ?_⟩
  rintro i m H2 ⟨rfl, Wd, acc, vs, o, le, S2, ra, ha, rs, g⟩
  cases hd : ds.drop i with
  | nil =>
    rw [hd] at g
    have hlen : ds.length ≤ i := List.drop_eq_nil_iff.mp hd
    exact .inl ⟨wk.stop i Wd σ H2 env o le.s S2 hlen, g (.ref Dd) Wd H2 le S2 ⟨Dd, vs, rfl, hn, ra, ha, rs⟩⟩
  | cons d rest =>
    rw [hd] at g
    obtain ⟨hil, hdi, hrest⟩ := drop_cons hd
    obtain ⟨hgo, hy⟩ := wk.go i d Wd σ H2 env o le.s S2 hdi
    refine .inr ⟨hgo, fun H' => inv (i + 1) (ds.length - (i + 1)) H', fun H' q => ⟨ds.length - (i + 1), by omega, q⟩, fun v H3 y3 => ?_⟩
    obtain ⟨W3, le3, S3, rv⟩ := hy v H3 y3
    have ra3 : W3.ρ Dd = some .acc := le3.r _ _ ra
    have ha3 : H3 Dd = some (.lst vs) := (le3.o _ _ ra rfl).trans ha
    unfold lc2D at g
    cases es : setTg tg d (wipeE env own) with
    | none => rw [es] at g; exact g.elim
    | some env' =>
      rw [es] at g
      simp only at g
      refine tg_of (S3.wipe own) rv es fun σ' S4 sb => ?_
      have wp : L2.wipe σ' own = L2.wipe σ own := by rw [sb.wipe ht, wipe_wipe]
      refine ⟨wp, W3, env', o, S4, ?_⟩
      cases et : t env' o with
      | bad => rw [et] at g; exact g.elim
      | ex c a o' => rw [et] at g; exact g.elim
      | ok b o2 =>
        rw [et] at g
        intro b' W4 H4 l4 S5 hb
        have hb : b' = b := hb
        subst hb
        have ra4 := l4.r _ _ ra3
        have ha4 := (l4.o _ _ ra3 rfl).trans ha3
        cases b' with
        | false =>
          simp only [Bool.false_eq_true, if_false, R.noex_ok, R.bind_ok] at g ⊢
          exact ⟨rfl, W4, acc, vs, o2, le.trans (le3.trans l4), back_to S3 l4 S5, ra4, ha4, (le3.trans l4).d.reps rs, by rw [hrest]; exact g⟩
        | true =>
          simp only [if_true, R.noex_ok, R.bind_ok] at g ⊢
          refine ⟨W4, env', o2, S5, ?_⟩
          cases ei : di1 env' o2 with
          | bad => rw [ei] at g; exact g.elim
          | ex c a o' => rw [ei] at g; exact g.elim
          | ok es1 o3 =>
            rw [ei] at g
            simp only [R.noex_ok, R.bind_ok] at g
            intro J1 W5 H5 l5 S6 wk1
            have wk1 : Wlk K CA W5 J1 es1 := wk1
            have S5b := S6
            have ra5 := l5.r _ _ ra4
            have ha5 := (l5.o _ _ ra4 rfl).trans ha4
            have le5 : W1.leE W5 H1 H5 := le.trans (le3.trans (l4.trans l5))
            have n5 : W1.ρ Dd = none := hn
            -- the second loop's invariant
            let inv1 : Nat → Nat → Hp → Prop := fun j k H' => k = es1.length - j ∧ ∃ Wd2 acc vs o, W5.leS Wd2 ∧ W3.leE Wd2 H3 (fun p => if p = Dd then H3 Dd else H' p) ∧ W1.leE Wd2 H1 H' ∧ SRel K CA Wd2 σ' H' env' o ∧ Wd2.ρ Dd = some .acc ∧ H' Dd = some (.lst vs) ∧ Wd2.reps K vs acc ∧
              GP K CA W0 (relF K) W1 env σ H1 Q ((lcD vs1 tg1 t1 x env' (es1.drop j) acc o).bind fun acc o => lc2D own vs1 tg t di1 tg1 t1 x env rest acc o)
            have le35 : W3.leE W5 H3 H5 := l4.trans l5
            refine ⟨inv1, ⟨es1.length, by simp, W5, acc, vs, o3, .refl, ⟨le35.r, fun q r e lo => ?_, le35.a⟩, le5, S6, ra5, ha5, (le3.trans le35).d.reps rs, by rw [List.drop_zero]; exact g⟩, ?_⟩
            · split
              · rename_i hq; rw [hq]
              · exact le35.o q r e lo
            rintro j k H6 ⟨rfl, Wd2, acc2, vs2, o4, lS, lE3, lE1, S7, ra6, ha6, rs6, g6⟩
            cases hd1 : es1.drop j with
            | nil =>
              rw [hd1] at g6
              have hlen1 : es1.length ≤ j := List.drop_eq_nil_iff.mp hd1
              refine .inl ⟨wk1.stop j Wd2 σ' H6 env' o4 lS S7 hlen1, rfl, Wd2, acc2, vs2, o4, lE1, ?_, ra6, ha6, rs6, by rw [hrest]; exact g6⟩
              refine ⟨S7.h, S3.len, fun i s e => ?_⟩
              refine SlR.mono lE3.d (fun p z => ⟨lE3.r p _ z, ?_⟩) (S3.sl i s e)
              have := lE3.o p _ z rfl
              rw [if_neg (fun q => by rw [q, ra3] at z; cases z)] at this
              exact this
            | cons d1 rest1 =>
              rw [hd1] at g6
              obtain ⟨hil1, hdi1, hrest1⟩ := drop_cons hd1
              obtain ⟨hgo1, hy1⟩ := wk1.go j d1 Wd2 σ' H6 env' o4 lS S7 hdi1
              refine .inr ⟨hgo1, fun H' => inv1 (j + 1) (es1.length - (j + 1)) H', fun H' q => ⟨es1.length - (j + 1), by omega, q⟩, fun v1 H7 y7 => ?_⟩
              obtain ⟨W7, le7, S8, rv1⟩ := hy1 v1 H7 y7
              have ra7 : W7.ρ Dd = some .acc := le7.r _ _ ra6
              have ha7 : H7 Dd = some (.lst vs2) := (le7.o _ _ ra6 rfl).trans ha6
              have step3 : ∀ {W' : Mp.Wd} {H' : Hp}, Wd2.leE W' H6 H' → W3.leE W' H3 (fun p => if p = Dd then H3 Dd else H' p) := fun {W' H'} l => ⟨fun p r e => l.r p r (lE3.r p r e), fun q r e lo => by
                split
                · rename_i hq; rw [hq]
                · rename_i hq
                  have := lE3.o q r e lo
                  rw [if_neg hq] at this
                  exact (l.o q r (lE3.r q r e) lo).trans this, fun n p e => l.a n p (lE3.a n p e)⟩
              unfold lcD at g6
              cases es7 : setTg tg1 d1 (wipeE env' vs1) with
              | none => rw [es7] at g6; exact g6.elim
              | some env2 =>
                rw [es7] at g6
                simp only at g6
                refine tg_of (S8.wipe vs1) rv1 es7 fun σ2 S9 sb1 => ?_
                have wp1 : L2.wipe σ2 vs1 = L2.wipe σ' vs1 := by rw [sb1.wipe ht1, wipe_wipe]
                refine ⟨wp1, W7, env2, o4, S9, ?_⟩
                cases et1 : t1 env2 o4 with
                | bad => rw [et1] at g6; exact g6.elim
                | ex c a o' => rw [et1] at g6; exact g6.elim
                | ok b1 o5 =>
                  rw [et1] at g6
                  intro b2 W8 H8 l8 S10 hb1
                  have hb1 : b2 = b1 := hb1
                  subst hb1
                  have ra8 := l8.r _ _ ra7
                  have ha8 := (l8.o _ _ ra7 rfl).trans ha7
                  cases b2 with
                  | false =>
                    simp only [Bool.false_eq_true, if_false, R.noex_ok, R.bind_ok] at g6 ⊢
                    exact ⟨rfl, W8, acc2, vs2, o5, lS.trans (le7.trans l8).s, step3 (le7.trans l8), lE1.trans (le7.trans l8), back_to S8 l8 S10, ra8, ha8, (le7.trans l8).d.reps rs6, by rw [hrest1]; exact g6⟩
                  | true =>
                    simp only [if_true, R.noex_ok, R.bind_ok] at g6 ⊢
                    refine ⟨W8, env2, o5, S10, ?_⟩
                    cases ex' : x env2 o5 with
                    | bad => rw [ex'] at g6; exact g6.elim
                    | ex c a o' => rw [ex'] at g6; exact g6.elim
                    | ok y o6 =>
                      rw [ex'] at g6
                      simp only [R.noex_ok, R.bind_ok] at g6
                      intro yv W9 H9 l9 S11 ry
                      have S12 := back_to S8 (l8.trans l9) S11
                      have ra9 := (l8.trans l9).r _ _ ra7
                      have ha9 : H9 Dd = some (.lst vs2) := ((l8.trans l9).o _ _ ra7 rfl).trans ha7
                      have l10 := le7.trans (l8.trans l9)
                      split at g6
                      · rename_i hlt
                        refine ⟨vs2, ha9, by rw [rs6.length]; exact hlt, rfl, W9, acc2 ++ [y], vs2 ++ [yv], o6, lS.trans l10.s, ?_, leE_grow (lE1.trans l10) hn, S12.grow (xs := vs2) ra9, ra9, upd_same, (l10.d.reps rs6).append (Reps.one ry), by rw [hrest1]; exact g6⟩
                        have z := step3 l10
                        refine ⟨z.r, fun q r e lo => ?_, z.a⟩
                        have z2 := z.o q r e lo
                        by_cases hq : q = Dd
                        · rw [if_pos hq, hq]
                        · rw [if_neg hq] at z2 ⊢
                          rw [upd_ne hq]; exact z2
                      · exact g6.elim
end Mp

set_option Elab.async false
set_option linter.all false
set_option maxRecDepth 100000
/-! Expressions mean over data what they mean in the model. -/
namespace Mp
open PySem PySem.Spec PyProof.Rows L2

/-! ### a list of one's own lent -/
section
variable {K : PySem.W.Frag} {F F' : Hp} {A : List Addr}
mutual
theorem Rep.noL (h : ∀ p o, F p = some o → (∀ xs, o ≠ .lst xs) → (∀ ks, o ≠ .dK ks) → F' p = some o) : ∀ {v : V} {d : D}, Rep K F A v d → noL d = true → Rep K F' A v d
  | _, _, .non, _ => .non
  | _, _, .bl b, _ => .bl b
  | _, _, .int i, _ => .int i
  | _, _, .str x, _ => .str x
  | _, _, .ty n, _ => .ty n
  | _, _, .tup q r, e => by
    refine .tup ?_ (Reps.noL h r (by simpa [Mp.noL] using e))
    rcases q with (q | ⟨o, q⟩) | q
    · exact .inl (.inl (h _ _ q (by simp) (by simp)))
    · exact .inl (.inr ⟨o, h _ _ q (by simp) (by simp)⟩)
    · exact .inr q
  | _, _, .lst _ _, e => by simp [Mp.noL] at e
  | _, _, .loc _, e => by simp [Mp.noL] at e
  | _, _, .dic _ _ _, e => by simp [Mp.noL] at e
  | _, _, .obj q, _ => .obj q
theorem Reps.noL (h : ∀ p o, F p = some o → (∀ xs, o ≠ .lst xs) → (∀ ks, o ≠ .dK ks) → F' p = some o) : ∀ {vs : List V} {ds : List D}, Reps K F A vs ds → noLs ds = true → Reps K F' A vs ds
  | _, _, .nil, _ => .nil
  | _, _, .cons a b, e => by
    simp only [Mp.noLs, Bool.and_eq_true] at e
    exact .cons (Rep.noL h a e.1) (Reps.noL h b e.2)
end
end

section
variable {K : PySem.W.Frag} {CA : Str → Option Addr} {W0 : WX} {α β : Type} {rel : Rl α β}
theorem bor_of {f : Env → Obs → R α} {i : Nat} {ok : α → Bool} {σ : L2.St} {H : Hp} {Q : β → Hp → Prop}
    (hrel : ∀ (W W1 W' W2 : Wd) (H' : Hp) (v : β) (d : α), rel W1 W' H' v d → ok d = true → (∀ p o, W'.F p = some o → (∀ xs, o ≠ .lst xs) → (∀ ks, o ≠ .dK ks) → W2.F p = some o) → W2.A = W'.A → rel W W2 H' v d)
    (h : LG K CA W0 rel (fun env o => match env[i]? with
      | some (.ol ds) => (f (env.set i (.v (.lst ds))) o).noex.bind fun d o => if ok d && o.all noLO then .ok d o else .bad
      | _ => .bad) σ H Q) : LG K CA W0 rel f σ H Q := by
  obtain ⟨W, env, obs, S, h⟩ := h
  cases he : env[i]? with
  | none => simp only [he] at h; exact h.elim
  | some s =>
    cases s with
    | un => simp only [he] at h; exact h.elim
    | v d => simp only [he] at h; exact h.elim
    | od d => simp only [he] at h; exact h.elim
    | ol ds =>
      simp only [he] at h
      obtain ⟨p, vs, hσ, hr, hp, rs⟩ := S.getL he
      have hi : i < env.length := (List.getElem?_eq_some_iff.mp he).1
      -- the slot forgotten, the list frozen, the slot set again
      have S0 : SRel K CA W σ H (env.set i .un) obs := S.weak (by simp [S.len]) fun j s e => by
        by_cases hj : i = j
        · subst hj; rw [List.getElem?_set_self hi] at e; exact .inl (Option.some.inj e).symm
        · rw [List.getElem?_set_ne hj] at e; exact .inr ⟨e, rfl⟩
      have S1 : SRel K CA (W.put p (.fro (.lst vs))) σ H (env.set i .un) obs := by
        refine S0.turn hr rfl (fun j s e z => ?_) (fun u e => by injection e with e; rw [← e]; exact hp) (fun u e => nomatch e)
        have hj : i = j := by injection e
        subst hj
        rw [List.getElem?_set_self hi] at z
        exact .inr (Option.some.inj z).symm
      have ls := leS_turn (r := .fro (.lst vs)) hr rfl
      have S2 : SRel K CA (W.put p (.fro (.lst vs))) σ H (env.set i (.v (.lst ds))) obs := by
        have := S1.set (i := i) (v := .ref p) (s := .v (.lst ds)) ⟨_, rfl, .lst (Wd.F_of.mpr Wd.put_same) (ls.d.reps rs)⟩
        rw [List.set_set] at this
        have e : σ.set i (some (.ref p)) = σ := by
          apply List.ext_getElem?
          intro j
          by_cases hj : i = j
          · subst hj; rw [List.getElem?_set_self (by rw [S.len]; exact hi), hσ]
          · rw [List.getElem?_set_ne hj]
        rw [e] at this; exact this
      refine ⟨_, _, _, S2, ?_⟩
      cases hf : f (env.set i (.v (.lst ds))) obs with
      | bad => rw [hf] at h; exact h.elim
      | ex c a o => rw [hf] at h; exact h.elim
      | ok d o =>
        rw [hf] at h
        simp only [R.noex_ok, R.bind_ok] at h
        split at h
        · rename_i hk
          rw [Bool.and_eq_true] at hk
          intro v W' H' le S' rv
          have hp' : W'.ρ p = some (.fro (.lst vs)) := le.r p _ Wd.put_same
          have hF : ∀ q u, W'.F q = some u → (∀ xs, u ≠ .lst xs) → (∀ ks, u ≠ .dK ks) → (W'.put p (.own i)).F q = some u := fun q u e n _ => by
            have hq : q ≠ p := fun z => by
              subst z
              rw [Wd.F_of.mpr hp'] at e; cases e; exact n vs rfl
            rw [Wd.F_of] at e ⊢
            rw [Wd.put_ne hq]; exact e
          have le2 : W.leE (W'.put p (.own i)) H H' := by
            refine ⟨fun q r e => ?_, fun q r e l => ?_, fun n q e => le.a n q e⟩
            · by_cases hq : q = p
              · subst hq; rw [hr] at e; cases e; exact Wd.put_same
              · rw [Wd.put_ne hq]; exact le.r q r (by rw [Wd.put_ne hq]; exact e)
            · by_cases hq : q = p
              · subst hq; rw [S'.h.fro q _ hp']; exact hp.symm
              · exact le.o q r (by rw [Wd.put_ne hq]; exact e) l
          have lp : ∀ q r, W'.ρ q = some r → q ≠ p → (W'.put p (.own i)).ρ q = some r := fun q r e hq => by rw [Wd.put_ne hq]; exact e
          refine h v (W'.put p (.own i)) H' le2 ⟨⟨fun q u e => ?_, fun q u e => ?_, fun q u e => ?_, S'.h.len, fun n ob e => ?_⟩, S.len, fun j s e => ?_⟩ (hrel W _ W' _ H' v d rv hk.1 hF rfl)
          · by_cases hq : q = p
            · subst hq; rw [Wd.put_same] at e; cases e
            · rw [Wd.put_ne hq] at e; exact S'.h.fro q u e
          · by_cases hq : q = p
            · subst hq; rw [Wd.put_same] at e; cases e
            · rw [Wd.put_ne hq] at e; exact S'.h.keep q u e
          · by_cases hq : q = p
            · subst hq; exact S'.h.live _ _ hp'
            · rw [Wd.put_ne hq] at e; exact S'.h.live q u e
          · obtain ⟨q, a1, a2, a3⟩ := S'.h.obs n ob e
            have hob : noLO ob = true := by
              have := List.all_eq_true.mp hk.2 ob (List.mem_of_getElem? e)
              exact this
            refine ⟨q, a1, lp q _ a2 (fun z => by rw [z, hp'] at a2; cases a2), ?_⟩
            cases ob with
            | ins c fs =>
              obtain ⟨C, dx, us, e1, e2, e3, e4, e5, e6⟩ := a3
              exact ⟨C, dx, us, e1, e2, lp dx _ e3 (fun z => by rw [z, hp'] at e3; cases e3), e4, e5, Reps.noL hF e6 hob⟩
            | ls fs =>
              obtain ⟨us, e2, e6⟩ := a3
              exact ⟨us, e2, Reps.noL hF e6 hob⟩
            | dk ks =>
              obtain ⟨us, e2, e3, e6⟩ := a3
              exact ⟨us, e2, e3, Reps.noL hF e6 hob⟩
          · exact SlR.mono le2.d (fun q z => ⟨le2.r q _ z, le2.o q _ z rfl⟩) (S.sl j s e)
        · exact h.elim
end

/-! ### built-in functions by their names -/
section
variable {X : Cx} {CA : Str → Option Addr}
theorem biB_ok (hc : X.calm = true) : ∀ f ∈ biB, ∃ r, CallR X (.builtin f) r ∧ Op1 X.K CA r (biD f) := by
  intro f hf
  simp only [biB, List.mem_cons, List.not_mem_nil, or_false] at hf
  rcases hf with rfl | rfl | rfl | rfl | rfl | rfl | rfl | rfl
  · exact len_ok
  · exact abs_ok
  · exact sum_ok hc
  · exact all_ok hc
  · exact any_ok hc
  · exact max_ok hc
  · exact min_ok hc
  · exact sorted_ok
theorem biT_ok : ∀ f ∈ biT, ∃ r, CallR X (.type f) r ∧ Op1 X.K CA r (biD f) := by
  intro f hf
  simp only [biT, List.mem_cons, List.not_mem_nil, or_false] at hf
  rcases hf with rfl | rfl | rfl | rfl
  · exact int_ok
  · exact str_ok
  · exact tuple_ok
  · exact list_ok
theorem boot_B : ∀ f ∈ biB, bootBuiltins (Str.ofString f) = some (.builtin f) ∧ Str.ofString f ≠ "__name__" ∧ ((Str.ofString f) == ("__debug__" : Str)) = false := by decide +kernel
theorem boot_T : ∀ f ∈ biT, bootBuiltins (Str.ofString f) = some (.type f) ∧ Str.ofString f ≠ "__name__" ∧ ((Str.ofString f) == ("__debug__" : Str)) = false := by decide +kernel
theorem boot_isi : ∀ f ∈ isiTs, bootBuiltins (Str.ofString f) = some (.type f) ∧ Str.ofString f ≠ "__name__" ∧ ((Str.ofString f) == ("__debug__" : Str)) = false := by decide +kernel
theorem boot_set : bootBuiltins ("set" : Str) = some (.type "set") := by decide +kernel
theorem boot_isin : bootBuiltins ("isinstance" : Str) = some (.builtin "isinstance") := by decide +kernel
end
theorem pt_ifE {X : Cx} {c a b : Expr} {pos : Pos} {tc ta tb : TT} (hc : PT X c tc) (ha : PT X a ta) (hb : PT X b tb) : PT X (.IfExp c a b pos) (fun σ H Q => tc σ H fun k H1 => if k = true then ta σ H1 Q else tb σ H1 Q) := by
  refine ⟨fun pins s σ H Q I h => ?_⟩
  show wpAny _ _ (do if ← isTrue c X.env (eval c X.env) then isTrue a X.env (eval a X.env) else isTrue b X.env (eval b X.env)) _ _ s
  refine wpAny_bind (thn (hc.run pins s σ H _ I h) fun d s1 ⟨H1, I1, q1⟩ => ?_)
  cases d with
  | true => exact ha.run pins s1 σ H1 Q I1 q1
  | false => exact hb.run pins s1 σ H1 Q I1 q1
/-- a test that is an expression's truth -/
def isPlainT : Expr → Bool
  | .UnaryOp .Not _ _ => false | .BoolOp _ _ _ => false | .IfExp _ _ _ _ => false | .Compare _ _ _ _ => false | _ => true
theorem plainT_ok {e : Expr} {env : PySem.Env} (h : isPlainT e = true) : ∀ whole, isTrue e env whole = (do let v ← whole; standAt e.pos; holding [v] (truthy v)) := fun whole => by
  cases e with
  | UnaryOp op a pos => cases op <;> first | rfl | (simp [isPlainT] at h)
  | BoolOp _ _ _ => simp [isPlainT] at h
  | IfExp _ _ _ _ => simp [isPlainT] at h
  | Compare _ _ _ _ => simp [isPlainT] at h
  | _ => rfl
theorem chk_star {fs bs N : List Str} {sc : Scope} : ∀ {es : Es} {es' : List Expr}, chkEs fs bs N sc es es' = true → ∀ e ∈ es', isStar e = false
  | .nil, [], _ => fun _ h => nomatch h
  | .nil, _ :: _, h => by simp [chkEs] at h
  | .cons _ _, [], h => by simp [chkEs] at h
  | .cons e r, e' :: r', h => fun x hx => by
    simp only [chkEs, Bool.and_eq_true, Bool.not_eq_true'] at h
    rcases List.mem_cons.mp hx with rfl | hx
    · exact h.1.2
    · exact chk_star h.2 x hx
theorem plain_of {env : PySem.Env} {pos : Pos} : ∀ {es : List Expr}, (∀ e ∈ es, isStar e = false) → (backTo pos (starEach es env)).any (·.1) = false
  | [], _ => rfl
  | e :: es, h => by
    rw [star_ok (h e List.mem_cons_self)]
    show (false || (backTo pos (starEach es env)).any (·.1)) = false
    rw [Bool.false_or]
    exact plain_of fun x hx => h x (List.mem_cons_of_mem _ hx)
end Mp

set_option Elab.async false
set_option linter.all false
set_option maxRecDepth 100000
set_option maxHeartbeats 4000000
/-! THE THEOREM for expressions. -/
namespace Mp
open PySem PySem.Spec PyProof.Rows L2


/-- data made once is data -/
theorem lf_of {K : PySem.W.Frag} {CA : Str → Option Addr} {W0 : WX} {f : Env → Obs → R (List D)} {σ : L2.St} {H : Hp} {Q : V → Hp → Prop} (h : LE K CA W0 (fun env o => (f env o).map .lst) σ H Q) : LF K CA W0 f σ H Q := by
  obtain ⟨W, env, obs, S, g⟩ := h
  refine ⟨W, env, obs, S, ?_⟩
  cases e : f env obs with
  | bad => simp only [e] at g; exact g.elim
  | ex c a o => simp only [e] at g; exact g
  | ok ds o =>
    simp only [e] at g
    rintro v W' H' l S' ⟨p, vs, rfl, n, ra, hp, rs⟩
    have ls := leS_turn (r := .fro (.lst vs)) ra rfl
    refine g (.ref p) (W'.put p (.fro (.lst vs))) H' ⟨fun q r e => ?_, l.o, l.a⟩ (S'.turn ra rfl (fun i s z => nomatch z) (fun u z => by injection z with z; rw [← z]; exact hp) (fun u z => nomatch z)) (.lst (Wd.F_of.mpr Wd.put_same) (ls.d.reps rs))
    have hq : q ≠ p := fun z => by rw [z, n] at e; cases e
    rw [Wd.put_ne hq]; exact l.r q r e
theorem nm1_own {sc : Scope} {N : List Str} {own : List Nat} {i : Nat} {e : Expr} (h : chkNm1 sc N own i e = true) : i ∈ own := by
  cases e with
  | Name x pos =>
    simp only [chkNm1, Bool.and_eq_true] at h
    simpa using h.2
  | _ => simp [chkNm1] at h
theorem nm2_own {sc : Scope} {N : List Str} {own : List Nat} : ∀ {ts : List Nat} {es : List Expr}, chkNm2 sc N own ts es = true → ∀ i ∈ ts, i ∈ own
  | [], _, _ => by simp
  | _ :: _, [], h => by simp [chkNm2] at h
  | t :: ts, e :: es, h => by
    simp only [chkNm2, Bool.and_eq_true] at h
    intro i hi
    rcases List.mem_cons.mp hi with rfl | hi
    · exact nm1_own h.1
    · exact nm2_own h.2 i hi
theorem t1_own {sc : Scope} {N : List Str} {own : List Nat} {t : Nat ⊕ List Nat} {e : Expr} (h : chkT1 sc N own t e = true) : ∀ i ∈ slT1 t, i ∈ own := by
  cases t with
  | inl i =>
    intro j hj
    simp only [slT1, List.mem_singleton] at hj
    subst hj; exact nm1_own (by simpa only [chkT1] using h)
  | inr ts =>
    cases e with
    | Tuple es k pos => exact nm2_own (ts := ts) (by simpa only [chkT1] using h)
    | _ => simp [chkT1] at h
theorem tt_own {sc : Scope} {N : List Str} {own : List Nat} : ∀ {ts : List (Nat ⊕ List Nat)} {es : List Expr}, chkTt sc N own ts es = true → ∀ i ∈ slTt ts, i ∈ own
  | [], _, _ => by simp [slTt]
  | _ :: _, [], h => by simp [chkTt] at h
  | t :: ts, e :: es, h => by
    simp only [chkTt, Bool.and_eq_true] at h
    intro i hi
    rcases List.mem_append.mp hi with hi | hi
    · exact t1_own h.1 i hi
    · exact tt_own h.2 i hi
theorem chkTg_own {sc : Scope} {N : List Str} {own : List Nat} {tg : Tg} {e : Expr} (h : chkTg sc N own tg e = true) : ∀ i ∈ tg.sl, i ∈ own := by
  cases tg with
  | nm i =>
    intro j hj
    simp only [Tg.sl, List.mem_singleton] at hj
    subst hj; exact nm1_own (by simpa only [chkTg] using h)
  | tp ts =>
    cases e with
    | Tuple es k pos => exact nm2_own (ts := ts) (by simpa only [chkTg] using h)
    | _ => simp [chkTg] at h
  | tt ts =>
    cases e with
    | Tuple es k pos => exact tt_own (ts := ts) (by simpa only [chkTg] using h)
    | _ => simp [chkTg] at h
theorem chkI_set {fs bs N : List Str} {sc : Scope} {it : It} {tg e : Expr} (h : chkI fs bs N sc it tg e = true) : isSet e = false := by
  cases it with
  | sq a => simp only [chkI, Bool.and_eq_true, Bool.not_eq_true'] at h; exact h.2
  | r1 a => cases e <;> first | rfl | (simp [chkI] at h)
  | r2 a b => cases e <;> first | rfl | (simp [chkI] at h)
  | r3 a b c => cases e <;> first | rfl | (simp [chkI] at h)
  | en a => cases e <;> first | rfl | (cases tg <;> simp [chkI] at h)
theorem R.bind_assoc {α β γ : Type} (x : R α) (f : α → Obs → R β) (g : β → Obs → R γ) : (x.bind f).bind g = x.bind fun a o => (f a o).bind g := by
  cases x <;> rfl
/-- as LG.bnd, the run's value told -/
theorem LG.bnd' {K : PySem.W.Frag} {CA : Str → Option Addr} {W0 : WX} {W : Wd} {H : Hp} {obs : Obs} {env : Env} {σ : L2.St} {α β γ δ : Type} {rel : Rl α β} {rel2 : Rl γ δ} {Q : δ → Hp → Prop} {T : β → Hp → Prop} {fa : Env → Obs → R α} {k : α → Obs → R γ} (er : rel2.Early) (S : SRel K CA W σ H env obs) (h : GP K CA W0 rel2 W env σ H Q ((fa env obs).bind k))
    (kk : ∀ a o1 v W1 H1, fa env obs = .ok a o1 → W.leE W1 H H1 → SRel K CA W1 σ H1 env o1 → rel W W1 H1 v a → GP K CA W0 rel2 W1 env σ H1 Q (k a o1) → T v H1) : LG K CA W0 rel fa σ H T := by
  refine ⟨W, env, obs, S, ?_⟩
  cases e : fa env obs with
  | ok a o => exact fun v W' H' l S' r => kk a o v W' H' e l S' r (GP.mono er l (by rw [e] at h; exact h))
  | ex c a o => rw [e] at h; exact h
  | bad => rw [e] at h; exact h
theorem one_of {X : Cx} {CA : Str → Option Addr} {W0 : WX} {f : Env → Obs → R D} {σ : L2.St} {H : Hp} {T : List V → Hp → Prop}
    (h : LE X.K CA W0 f σ H fun v H1 => T [v] H1) : tCons (LE X.K CA W0 f) tNil σ H T := h

section
variable {CA : Str → Option Addr} {fs bs N : List Str} {G : Str → Option D} {Φ : Str → List D → Obs → R D} {n : Nat}

theorem gt_of_opt {K : PySem.W.Frag} {W0 : WX} {W : Wd} {σ : L2.St} {H : Hp} {env : Env} {obs : Obs} {Q : Bool → Hp → Prop} {o : Option Bool} (S : SRel K CA W σ H env obs) (h : GP K CA W0 relT W env σ H Q (R.opt obs o)) : ∃ b, o = some b ∧ Q b H := by
  cases o with
  | none => exact h.elim
  | some b => exact ⟨b, rfl, h b W H .refl S rfl⟩

theorem lsO_some {o : Obs} {x : D} {ds : List D} (h : lsO o x = some ds) : ∃ n, x = .obj n ∧ o[n]? = some (.ls ds) := by
  cases x with
  | obj n =>
    refine ⟨n, rfl, ?_⟩
    simp only [lsO] at h
    split at h
    · cases h; assumption
    · cases h
  | _ => cases h
/-- a new list that many may hold -/
theorem GP.onew {K : PySem.W.Frag} {W0 : WX} {W : Wd} {σ : L2.St} {H : Hp} {env : Env} {obs : Obs} {Q : V → Hp → Prop} {ds : List D} {vs : List V} (S : SRel K CA W σ H env obs) (q : GP K CA W0 (relE K) W env σ H Q (.ok (.obj obs.length) (obs ++ [.ls ds]))) (r : W.reps K vs ds) :
    ∀ p, H p = none → Q (.ref p) (upd H p (.lst vs)) := fun p hp => by
  obtain ⟨W', l, S', hA⟩ := S.onew (o := .lst vs) (ob := .ls ds) hp fun W' d _ => ⟨vs, upd_same, d.reps r⟩
  exact q _ W' _ l S' (.obj hA)
mutual
theorem soundE : ∀ (m : E) {X : Cx} {sc : Scope} {W0 : WX} {e : Expr}, Ctx CA fs bs N G Φ n sc X → Takes X W0 → chkE fs bs N sc m e = true → PE X e (LE X.K CA W0 (denE Φ G m))
  | .lit d, X, sc, W0, e, c, tk, h => by
    have fin : ∀ {v : V}, (∀ W : Wd, W.rep X.K v d) → ∀ σ H Q, LE X.K CA W0 (denE Φ G (.lit d)) σ H Q → Q v H := fun {v} r σ H Q ⟨W, env, obs, S, h⟩ => (show GP X.K CA W0 (relE X.K) W env σ H Q (.ok d obs) from h) v W H .refl S (r W)
    cases e with
    | Constant k j pos =>
      cases d with
      | non => cases k with
        | none => exact PE.weak pe_non (fin fun _ => .non)
        | _ => simp [chkE] at h
      | bl b => cases k with
        | bool b' =>
          have : b = b' := by simpa [chkE] using h
          subst this
          exact PE.weak pe_bl (fin fun _ => .bl _)
        | _ => simp [chkE] at h
      | int b => cases k with
        | int b' =>
          have : b = b' := by simpa [chkE] using h
          subst this
          exact PE.weak pe_int (fin fun _ => .int _)
        | _ => simp [chkE] at h
      | str b => cases k with
        | str b' =>
          have : b = b' := by simpa [chkE] using h
          subst this
          exact PE.weak pe_str (fin fun _ => .str _)
        | _ => simp [chkE] at h
      | _ => simp [chkE] at h
    | _ => cases d <;> simp [chkE] at h
  | .var i, X, sc, W0, e, c, tk, h => by
    cases e with
    | Name x pos =>
      simp only [chkE, Bool.and_eq_true, decide_eq_true_eq, Bool.not_eq_true'] at h
      obtain ⟨⟨⟨h1, h2⟩, h3⟩, h4⟩ := h
      refine PE.weak (pe_var (i := i) (by rw [c.hN]; exact h1) (by rw [c.hsc]; exact visB_ok h2) h3 h4) ?_
      rintro σ H Q ⟨W, env, obs, S, g⟩
      obtain ⟨d, e, q⟩ := GP.opt g
      unfold getD' at e
      cases he : env[i]? with
      | none => rw [he] at e; cases e
      | some s =>
        rw [he] at e
        cases s with
        | v d' =>
          cases e
          obtain ⟨v, a, b⟩ := S.get he
          exact ⟨v, a, q v W H .refl S b⟩
        | _ => cases e
    | _ => simp [chkE] at h
  | .glob y, X, sc, W0, e, c, tk, h => by
    cases e with
    | Name x pos =>
      simp only [chkE, Bool.and_eq_true, Bool.not_eq_true', beq_iff_eq] at h
      obtain ⟨⟨h1, h2⟩, h3⟩ := h
      subst h1
      refine ⟨fun pins s σ H Q I ⟨W, env, obs, S, g⟩ => ?_⟩
      obtain ⟨d, e, q⟩ := GP.opt g
      obtain ⟨u, v, hm, rv, rd⟩ := c.mo.gl y d e
      exact (pe_glob (glB_ok c.hsc h2) hm rv h3).run pins s σ H Q I (q v W H .refl S (Rep.mono (fun _ _ z => by cases z) (fun n p z => by simp at z) rd))
    | _ => simp [chkE] at h
  | .bin op a b, X, sc, W0, e, c, tk, h => by
    cases e with
    | BinOp a' op' b' pos =>
      simp only [chkE, Bool.and_eq_true, decide_eq_true_eq] at h
      obtain ⟨⟨rfl, h1⟩, h2⟩ := h
      obtain ⟨r, hr, hop⟩ := bin_ok (X := X) (CA := CA) op
      refine PE.weak (pe_op hr (soundE a c tk h1) (soundE b c tk h2)) ?_
      rintro σ H Q ⟨W, env, obs, S, g⟩
      refine LG.bnd earlyE S g fun x o1 v W1 H1 l1 S1 r1 g1 => ?_
      refine LG.bnd earlyE S1 g1 fun y o2 u W2 H2 l2 S2 r2 g2 => ?_
      obtain ⟨d, e, q⟩ := GP.opt g2
      exact hop W2 σ H2 env o2 v u x y d Q S2 (l2.d.rep r1) r2 e q
    | _ => simp [chkE] at h
  | .cmp op a b, X, sc, W0, e, c, tk, h => by
    cases e with
    | Compare a' ops bs' pos =>
      unfold chkE at h
      split at h
      · simp only [Bool.and_eq_true, decide_eq_true_eq, Bool.not_eq_true'] at h
        obtain ⟨⟨⟨rfl, h1⟩, h2⟩, h3⟩ := h
        obtain ⟨r, hr, hop⟩ := cmp_ok (X := X) (CA := CA) (by have := c.room.un; omega) op
        refine PE.weak (pe_cmpR hr (soundE a c tk h1) (soundE b c tk h2) (behind_ok h3)) ?_
        rintro σ H Q ⟨W, env, obs, S, g⟩
        refine LG.bnd earlyE S g fun x o1 v W1 H1 l1 S1 r1 g1 => ?_
        refine LG.bnd earlyE S1 g1 fun y o2 u W2 H2 l2 S2 r2 g2 => ?_
        obtain ⟨d, e, q⟩ := GP.opt g2
        rw [Option.map_eq_some_iff] at e
        obtain ⟨k, e, rfl⟩ := e
        exact hop W2 σ H2 env o2 v u x y k Q S2 (l2.d.rep r1) r2 e (q _ W2 H2 .refl S2 (.bl k))
      · cases h
    | _ => simp [chkE] at h
  | .chn o1 o2 a b d, X, sc, W0, e, c, tk, h => by
    cases e with
    | Compare a' ops bs' pos =>
      unfold chkE at h
      split at h
      · simp only [Bool.and_eq_true, decide_eq_true_eq, Bool.not_eq_true'] at h
        obtain ⟨⟨⟨⟨⟨rfl, rfl⟩, h1⟩, h2⟩, h3⟩, h4⟩ := h
        obtain ⟨r, hr, hop⟩ := cmp_ok (X := X) (CA := CA) (by have := c.room.un; omega) o1
        obtain ⟨r', hr', hop'⟩ := cmp_ok (X := X) (CA := CA) (by have := c.room.un; omega) o2
        refine PE.weak (pe_chain hr hr' (soundE a c tk h1) (soundE b c tk h2) (soundE d c tk h3) (by unfold lastMarks; exact behind_ok h4)) ?_
        rintro σ H Q ⟨W, env, obs, S, g⟩
        refine LG.bnd earlyE S g fun x oo1 v W1 H1 l1 S1 r1 g1 => ?_
        refine LG.bnd earlyE S1 g1 fun y oo2 u W2 H2 l2 S2 r2 g2 => ?_
        cases hc : cmpD o1 x y with
        | none => rw [hc] at g2; exact g2.elim
        | some k =>
          rw [hc] at g2
          refine hop W2 σ H2 env oo2 v u x y k _ S2 (l2.d.rep r1) r2 hc ⟨k, rfl, ?_⟩
          cases k with
          | false => exact g2 _ W2 H2 .refl S2 (.bl false)
          | true =>
            refine LG.bnd earlyE S2 g2 fun z oo3 w W3 H3 l3 S3 r3 g3 => ?_
            obtain ⟨d, e, q⟩ := GP.opt g3
            rw [Option.map_eq_some_iff] at e
            obtain ⟨k, e, rfl⟩ := e
            exact hop' W3 σ H3 env oo3 u w y z k Q S3 (l3.d.rep r2) r3 e (q _ W3 H3 .refl S3 (.bl k))
      · cases h
    | _ => simp [chkE] at h
  | .not a, X, sc, W0, e, c, tk, h => by
    cases e with
    | UnaryOp op a' pos =>
      cases op with
      | Not =>
        refine PE.weak (pe_not (soundE a c tk (by simpa [chkE] using h))) ?_
        rintro σ H Q ⟨W, env, obs, S, g⟩
        refine LG.bnd earlyE S g fun x o1 v W1 H1 l1 S1 r1 g1 => ?_
        cases x with
        | bl b => cases r1; exact ⟨b, rfl, g1 _ W1 H1 .refl S1 (.bl _)⟩
        | _ => exact g1.elim
      | _ => simp [chkE] at h
    | _ => simp [chkE] at h
  | .neg a, X, sc, W0, e, c, tk, h => by
    cases e with
    | UnaryOp op a' pos =>
      cases op with
      | USub =>
        refine PE.weak (pe_un un_neg (soundE a c tk (by simpa [chkE] using h))) ?_
        rintro σ H Q ⟨W, env, obs, S, g⟩
        refine LG.bnd earlyE S g fun x o1 v W1 H1 l1 S1 r1 g1 => ?_
        cases x with
        | int b => cases r1; exact ⟨b, rfl, g1 _ W1 H1 .refl S1 (.int _)⟩
        | _ => exact g1.elim
      | _ => simp [chkE] at h
    | _ => simp [chkE] at h
  | .con es, X, sc, W0, e, c, tk, h => by
    cases e with
    | BoolOp op es' pos =>
      cases op with
      | And => exact soundCon es c tk (by simpa [chkE] using h)
      | _ => simp [chkE] at h
    | _ => simp [chkE] at h
  | .dis es, X, sc, W0, e, c, tk, h => by
    cases e with
    | BoolOp op es' pos =>
      cases op with
      | Or => exact soundDis es c tk (by simpa [chkE] using h)
      | _ => simp [chkE] at h
    | _ => simp [chkE] at h
  | .ife k a b, X, sc, W0, e, c, tk, h => by
    cases e with
    | IfExp k' a' b' pos =>
      simp only [chkE, Bool.and_eq_true] at h
      obtain ⟨⟨h1, h2⟩, h3⟩ := h
      refine PE.weak (pe_ifExp (soundT k c tk h1) (soundE a c tk h2) (soundE b c tk h3)) ?_
      rintro σ H Q ⟨W, env, obs, S, g⟩
      refine LG.bnd earlyE S g fun x o1 v W1 H1 l1 S1 r1 g1 => ?_
      have r1 : v = x := r1
      subst r1
      cases v with
      | true => exact ⟨W1, env, o1, S1, g1⟩
      | false => exact ⟨W1, env, o1, S1, g1⟩
    | _ => simp [chkE] at h
  | .tup es, X, sc, W0, e, c, tk, h => by
    cases e with
    | Tuple es' k pos =>
      refine PE.weak (pe_tup (soundEs es c tk (by simpa [chkE] using h))) ?_
      rintro σ H Q ⟨W, env, obs, S, g⟩
      refine LG.bnd earlyE S g fun ds o1 vs W1 H1 l1 S1 r1 g1 => ?_
      split at g1
      · rename_i hl
        have r1 : W1.reps X.K vs ds := r1
        exact ⟨by rw [r1.length]; exact hl, GP.tup S1 g1 r1⟩
      · exact g1.elim
    | _ => simp [chkE] at h
  | .lst es, X, sc, W0, e, c, tk, h => by
    cases e with
    | List es' pos =>
      refine PE.weak (pe_lst (soundEs es c tk (by simpa [chkE] using h))) ?_
      rintro σ H Q ⟨W, env, obs, S, g⟩
      refine LG.bnd earlyE S g fun ds o1 vs W1 H1 l1 S1 r1 g1 => ?_
      split at g1
      · rename_i hl
        have r1 : W1.reps X.K vs ds := r1
        exact ⟨by rw [r1.length]; exact hl, GP.lst S1 g1 r1⟩
      · exact g1.elim
    | _ => simp [chkE] at h
  | .ix a b, X, sc, W0, e, c, tk, h => by
    cases e with
    | Subscript a' b' pos =>
      simp only [chkE, Bool.and_eq_true, Bool.not_eq_true'] at h
      obtain ⟨⟨h1, h2⟩, h3⟩ := h
      obtain ⟨r, hr, hop⟩ := ix_ok (X := X) (CA := CA)
      refine PE.weak (pe_ix hr (soundE a c tk h1) (soundE b c tk h2) (plainIx_ok h3)) ?_
      rintro σ H Q ⟨W, env, obs, S, g⟩
      refine LG.bnd earlyE S g fun x o1 v W1 H1 l1 S1 r1 g1 => ?_
      refine LG.bnd earlyE S1 g1 fun y o2 u W2 H2 l2 S2 r2 g2 => ?_
      obtain ⟨d, e, q⟩ := GP.opt g2
      exact hop W2 σ H2 env o2 v u x y d Q S2 (l2.d.rep r1) r2 e q
    | _ => simp [chkE] at h
  | .sl a lo hi, X, sc, W0, e, c, tk, h => by
    cases e with
    | Subscript a' b' pos =>
      cases b' with
      | Slice lo' hi' st pos2 =>
        cases st with
        | none =>
          simp only [chkE, Bool.and_eq_true] at h
          obtain ⟨⟨h1, h2⟩, h3⟩ := h
          obtain ⟨r, hr, hop⟩ := sl_ok (X := X) (CA := CA)
          refine PE.weak (pe_slice hr (soundE a c tk h1) (soundO lo c tk h2) (soundO hi c tk h3)) ?_
          rintro σ H Q ⟨W, env, obs, S, g⟩
          refine LG.bnd earlyE S g fun x o1 v W1 H1 l1 S1 r1 g1 => ?_
          refine LG.bnd earlyE S1 g1 fun y o2 u W2 H2 l2 S2 r2 g2 => ?_
          refine LG.bnd earlyE S2 g2 fun z o3 w W3 H3 l3 S3 r3 g3 => ?_
          have r2 : u = y := r2
          have r3 : w = z := r3
          subst r2; subst r3
          obtain ⟨d, e, q⟩ := GP.opt g3
          exact hop W3 σ H3 env o3 v x d u w Q S3 ((l2.trans l3).d.rep r1) e q
        | some _ => simp [chkE] at h
      | _ => simp [chkE] at h
    | _ => simp [chkE] at h
  | .rev a, X, sc, W0, e, c, tk, h => by
    cases e with
    | Subscript a' b' pos =>
      simp only [chkE, Bool.and_eq_true] at h
      obtain ⟨k, p1, p2, p3, rfl⟩ := isRevSl_ok h.1
      refine PE.weak (pe_revA (soundE a c tk h.2)) ?_
      rintro σ H Q ⟨W, env, obs, S, g⟩
      refine LG.bnd earlyE S g fun x o1 v W1 H1 l1 S1 r1 g1 => ?_
      obtain ⟨d, e, q⟩ := GP.opt g1
      unfold revD at e
      cases x with
      | lst ds =>
        cases e
        obtain ⟨p, vs, rfl, hp, rs⟩ := S1.lst r1
        exact ⟨p, vs, rfl, .inl ⟨SqL.of hp, GP.lst S1 q rs.reverse⟩⟩
      | tup ds =>
        simp only at e
        split at e
        · cases e
          obtain ⟨p, vs, rfl, hp, rs⟩ := S1.tup r1
          exact ⟨p, vs, rfl, .inr ⟨hp, GP.tup S1 q rs.reverse⟩⟩
        · cases e
      | _ => cases e
    | _ => simp [chkE] at h
  | .call f es, X, sc, W0, e, c, tk, h => by
    cases e with
    | Call g es' kws pos =>
      cases g with
      | Name x p =>
        cases kws with
        | cons _ _ => simp [chkE] at h
        | nil =>
          simp only [chkE, Bool.and_eq_true, Bool.not_eq_true', beq_iff_eq] at h
          obtain ⟨⟨⟨⟨⟨rfl, h1⟩, h2⟩, h3⟩, h4⟩, h5⟩ := h
          obtain ⟨a, fd, ps, F, hm, hk, hb⟩ := c.mo.fn f (by simpa using h3)
          cases es' with
          | nil => simp at h4
          | cons e0 er =>
            have hst := chk_star h5
            refine PE.weak (pe_callS (E := WE W0) F c.room (glB_ok c.hsc h1) hm hk hb (passAt tk) (soundEs es c tk h5) h2 (star_ok (hst e0 List.mem_cons_self)) (plain_of fun x hx => hst x (List.mem_cons_of_mem _ hx))) ?_
            rintro σ H Q ⟨W, env, obs, S, g⟩
            exact LG.bnd earlyE S g fun ds o1 vs W1 H1 l1 S1 r1 g1 => call_of S1 r1 g1
      | _ => simp [chkE] at h
    | _ => simp [chkE] at h
  | .bi f es, X, sc, W0, e, c, tk, h => by
    cases e with
    | Call g es' kws pos =>
      cases g with
      | Name x p =>
        cases kws with
        | cons _ _ => simp [chkE] at h
        | nil =>
          simp only [chkE, Bool.and_eq_true, Bool.not_eq_true', beq_iff_eq, Bool.or_eq_true] at h
          obtain ⟨⟨⟨⟨⟨rfl, h1⟩, h2⟩, h3⟩, h4⟩, h5⟩ := h
          have hm := c.mo.bi _ (by simpa using h2)
          cases es' with
          | nil => simp at h4
          | cons e0 er =>
            have hst := chk_star h5
            rcases h3 with h3 | h3
            · have h3 : f ∈ biB := by simpa using h3
              obtain ⟨r, hr, hop⟩ := biB_ok (X := X) (CA := CA) c.calm f h3
              obtain ⟨b1, b2, b3⟩ := boot_B f h3
              refine PE.weak (pe_callB hr (glB_ok c.hsc h1) hm b1 (soundEs es c tk h5) b2 b3 (star_ok (hst e0 List.mem_cons_self)) (plain_of fun x hx => hst x (List.mem_cons_of_mem _ hx))) ?_
              rintro σ H Q ⟨W, env, obs, S, g⟩
              refine LG.bnd earlyE S g fun ds o1 vs W1 H1 l1 S1 r1 g1 => ?_
              obtain ⟨d, e, q⟩ := GP.opt g1
              exact hop W1 σ H1 env o1 vs ds d Q S1 r1 e q
            · have h3 : f ∈ biT := by simpa using h3
              obtain ⟨r, hr, hop⟩ := biT_ok (X := X) (CA := CA) f h3
              obtain ⟨b1, b2, b3⟩ := boot_T f h3
              refine PE.weak (pe_callTy hr (glB_ok c.hsc h1) hm b1 (soundEs es c tk h5) b2 b3 (star_ok (hst e0 List.mem_cons_self)) (plain_of fun x hx => hst x (List.mem_cons_of_mem _ hx))) ?_
              rintro σ H Q ⟨W, env, obs, S, g⟩
              refine LG.bnd earlyE S g fun ds o1 vs W1 H1 l1 S1 r1 g1 => ?_
              obtain ⟨d, e, q⟩ := GP.opt g1
              exact hop W1 σ H1 env o1 vs ds d Q S1 r1 e q
      | _ => simp [chkE] at h
    | _ => simp [chkE] at h
  | .isi a t, X, sc, W0, e, c, tk, h => by
    cases e with
    | Call g es' kws pos =>
      cases g with
      | Name x p =>
        cases kws with
        | cons _ _ => simp [chkE] at h
        | nil =>
          unfold chkE at h
          split at h
          · simp only [Bool.and_eq_true, Bool.not_eq_true', beq_iff_eq] at h
            obtain ⟨⟨⟨⟨⟨⟨⟨⟨rfl, h1⟩, h2⟩, h3⟩, rfl⟩, h4⟩, h5⟩, h6⟩, h7⟩ := h
            have ht : t ∈ isiTs := by simpa using h3
            obtain ⟨b1, b2, b3⟩ := boot_isi t ht
            obtain ⟨r, hr, hop⟩ := isi_ok (X := X) (CA := CA) ht
            refine PE.weak (pe_callB hr (glB_ok c.hsc h1) (c.mo.bi _ (by simpa using h2)) boot_isin (pa_cons (soundE a c tk h6) (pa_cons (pe_bltn (v := .ty t) (glB_ok c.hsc h4) (c.mo.bi _ (by simpa using h5)) b1 rfl b2 b3) pa_nil) (star_ok h7)) (by decide) (by decide) (star_ok h7)) ?_
            rintro σ H Q ⟨W, env, obs, S, g⟩
            refine LG.bnd earlyE S g fun x o1 v W1 H1 l1 S1 r1 g1 => ?_
            obtain ⟨d, e, q⟩ := GP.opt g1
            rw [Option.map_eq_some_iff] at e
            obtain ⟨k, e, rfl⟩ := e
            exact hop W1 σ H1 env o1 v x k Q S1 r1 e (q _ W1 H1 .refl S1 (.bl k))
          · cases h
      | _ => simp [chkE] at h
    | _ => simp [chkE] at h
  | .mth T m a es, X, sc, W0, e, c, tk, h => by simp [chkE] at h
  | .lc x tg it k own, X, sc, W0, e, c, tk, h => by
    cases e with
    | ListComp x' gs scope pos =>
      unfold chkE at h
      split at h
      · simp only [Bool.and_eq_true] at h
        obtain ⟨⟨⟨⟨h1, h2⟩, h3⟩, h4⟩, h5⟩ := h
        have cb : ∀ (s : Shared) (H : Hp) (C : Addr) (cl : List (Str × Addr)) (fp : List Addr), Ctx CA fs bs N G Φ n (relS scope sc) (X.blk s H scope (compEnvC scope cl C X.env) fp) := fun s H C cl fp =>
          ⟨c.hN, c.nd, by rw [← c.hsc]; rfl, c.calm, c.room, c.mo⟩
        have hpg : ∀ (s : Shared) (H : Hp) (C : Addr) (cl : List (Str × Addr)) (fp : List Addr), PG (X.blk s H scope (compEnvC scope cl C X.env) fp) _ (gTg X.K tg) ∧ ∀ i ∈ tg.sl, i ∈ own.map (·.2) := fun s H C cl fp =>
          pg_of (X := X.blk s H scope (compEnvC scope cl C X.env) fp) c.hN c.nd c.calm (fun y hy => by
            unfold locB at hy
            split at hy
            · rename_i e
              have : (relS scope X.env.scope).names.lookup y = some .local := lookup_relS_keep (by decide) e
              exact ⟨.inl this, .inr this⟩
            · rename_i e
              have : (relS scope X.env.scope).names.lookup y = some .cell := lookup_relS_keep (by decide) e
              exact ⟨.inr this, .inl (by show (scope.names.lookup y == some .cell) = true; rw [e]; rfl)⟩
            · cases hy) h3
        have hfold : ∀ z, foldedSetIterable _ X.env z = pure z := folded_ok (chkI_set h2)
        have ok : BlkOk X.N X.env.scope scope own := by rw [c.hN, c.hsc]; exact blkOk_by h1
        refine PE.weak (pe_lc (tt := LT X.K CA (fun _ _ _ _ => False) (denC Φ G k)) (te := LE X.K CA (fun _ _ _ _ => False) (denE Φ G x)) c.calm (by rw [c.hN]; exact c.nd) (soundI it c tk h2) ok (fun s H C cl fp => (hpg s H C cl fp).1) (fun s H C cl fp => soundC k (cb s H C cl fp) takes0 h4) (fun s H C cl fp => soundE x (cb s H C cl fp) takes0 h5) hfold) ?_
        intro σ H Q g
        refine lc_of (fun i hi => ?_) (lf_of g)
        exact chkTg_own h3 i hi
      · cases h
    | _ => simp [chkE] at h
  | .lc2 x tg it k tg1 it1 k1 own vs1, X, sc, W0, e, c, tk, h => by
    cases e with
    | ListComp x' gs scope pos =>
      unfold chkE at h
      split at h
      · simp only [Bool.and_eq_true, List.all_eq_true] at h
        obtain ⟨⟨⟨⟨⟨⟨⟨⟨h1, h2⟩, h3⟩, h4⟩, h6⟩, h7⟩, h8⟩, h9⟩, h5⟩ := h
        have cb : ∀ (s : Shared) (H : Hp) (C : Addr) (cl : List (Str × Addr)) (fp : List Addr), Ctx CA fs bs N G Φ n (relS scope sc) (X.blk s H scope (compEnvC scope cl C X.env) fp) := fun s H C cl fp =>
          ⟨c.hN, c.nd, by rw [← c.hsc]; rfl, c.calm, c.room, c.mo⟩
        have hloc : ∀ (s : Shared) (H : Hp) (C : Addr) (cl : List (Str × Addr)) (fp : List Addr), LocOk (X.blk s H scope (compEnvC scope cl C X.env) fp) scope := fun s H C cl fp y hy => by
            unfold locB at hy
            split at hy
            · rename_i e
              have : (relS scope X.env.scope).names.lookup y = some .local := lookup_relS_keep (by decide) e
              exact ⟨.inl this, .inr this⟩
            · rename_i e
              have : (relS scope X.env.scope).names.lookup y = some .cell := lookup_relS_keep (by decide) e
              exact ⟨.inr this, .inl (by show (scope.names.lookup y == some .cell) = true; rw [e]; rfl)⟩
            · cases hy
        have hpg : ∀ (s : Shared) (H : Hp) (C : Addr) (cl : List (Str × Addr)) (fp : List Addr), PG (X.blk s H scope (compEnvC scope cl C X.env) fp) _ (gTg X.K tg) ∧ ∀ i ∈ tg.sl, i ∈ own.map (·.2) := fun s H C cl fp =>
          pg_of (X := X.blk s H scope (compEnvC scope cl C X.env) fp) c.hN c.nd c.calm (hloc s H C cl fp) h3
        have hpg1 : ∀ (s : Shared) (H : Hp) (C : Addr) (cl : List (Str × Addr)) (fp : List Addr), PG (X.blk s H scope (compEnvC scope cl C X.env) fp) _ (gTg X.K tg1) ∧ ∀ i ∈ tg1.sl, i ∈ vs1 := fun s H C cl fp =>
          pg_of (X := X.blk s H scope (compEnvC scope cl C X.env) fp) c.hN c.nd c.calm (hloc s H C cl fp) h7
        have hfold : ∀ z, foldedSetIterable _ X.env z = pure z := folded_ok (chkI_set h2)
        have hfold1 : ∀ env z, foldedSetIterable _ env z = pure z := fun env => folded_ok (chkI_set h6)
        have ok : BlkOk X.N X.env.scope scope own := by rw [c.hN, c.hsc]; exact blkOk_by h1
        refine PE.weak (pe_lc2 (tt := LT X.K CA (fun _ _ _ _ => False) (denC Φ G k)) (wi1 := LG X.K CA (fun _ _ _ _ => False) (relI X.K CA) (denI Φ G it1)) (tt1 := LT X.K CA (fun _ _ _ _ => False) (denC Φ G k1)) (te := LE X.K CA (fun _ _ _ _ => False) (denE Φ G x)) c.calm (by rw [c.hN]; exact c.nd) (soundI it c tk h2) ok (fun i hi => by simpa using h8 i hi) (fun s H C cl fp => (hpg s H C cl fp).1) (fun s H C cl fp => soundC k (cb s H C cl fp) takes0 h4)
          (fun s H C cl fp => soundI it1 (cb s H C cl fp) takes0 h6) (fun s H C cl fp => (hpg1 s H C cl fp).1) (fun s H C cl fp => soundC k1 (cb s H C cl fp) takes0 h9) (fun s H C cl fp => soundE x (cb s H C cl fp) takes0 h5) hfold hfold1) ?_
        intro σ H Q g
        exact lc2_of (fun i hi => chkTg_own h3 i hi) (fun i hi => chkTg_own h7 i hi) (lf_of g)
      · cases h
    | _ => simp [chkE] at h
  | .sset a, X, sc, W0, e, c, tk, h => by
    cases e with
    | Call g es' kws pos =>
      cases g with
      | Name x p =>
        cases kws with
        | cons _ _ => simp [chkE] at h
        | nil =>
          unfold chkE at h
          split at h
          · simp only [Bool.and_eq_true, beq_iff_eq] at h
            obtain ⟨⟨⟨⟨⟨⟨rfl, h1⟩, h2⟩, rfl⟩, h3⟩, h4⟩, h⟩ := h
            split at h
            · simp only [Bool.and_eq_true, Bool.not_eq_true'] at h
              obtain ⟨h5, h6⟩ := h
              obtain ⟨b1, b2, b3⟩ := boot_B "sorted" (by decide)
              refine PE.weak (pe_callB (cr_sortedSet c.calm) (glB_ok c.hsc h1) (c.mo.bi _ (by simpa using h2)) b1 (pa_cons (pe_callTy (call_setL (X := X) c.calm) (glB_ok c.hsc h3) (c.mo.bi _ (by simpa using h4)) boot_set (pa_cons (soundE a c tk h5) pa_nil (star_ok h6)) (by decide) (by decide) (star_ok h6) rfl) pa_nil rfl) b2 b3 rfl rfl) ?_
              rintro σ H Q ⟨W, env, obs, S, g⟩
              refine LG.bnd earlyE S g fun x o1 v W1 H1 l1 S1 r1 g1 => ?_
              obtain ⟨d, e, q⟩ := GP.opt g1
              unfold ssetD at e
              cases x with
              | lst ds =>
                simp only [Option.bind_eq_some_iff] at e
                obtain ⟨ns, e1, e⟩ := e
                split at e
                · rename_i h64
                  cases e
                  cases intsD_some e1
                  obtain ⟨p, vs, rfl, hp, rs⟩ := S1.lst r1
                  rw [rs.to_ints] at hp
                  refine ⟨p, ns, rfl, SqL.of hp, by have := h64; unfold scanBound at *; omega, fun u c hu hc => ?_⟩
                  refine ⟨u, _, c, rfl, upd_same, by omega, fun ms w hs hm hl hw => ?_⟩
                  have e2 : ms = ssetI ns := sset_eq hs fun k => by rw [hm]; simp
                  subst e2
                  have S2 := S1.heap (H' := upd H1 u (SetO X.w u (fun j => decide (j ∈ ns)) c)) fun a o z => by rw [upd_ne (ne_of_none z hu)]; exact z
                  have l2 := leE_heap S1 (H' := upd H1 u (SetO X.w u (fun j => decide (j ∈ ns)) c)) fun a o z => by rw [upd_ne (ne_of_none z hu)]; exact z
                  exact GP.lst S2 (fun v W' H' l S' r => q v W' H' (l2.trans l) S' r) (Reps.ints _) w hw
                · cases e
              | _ => cases e
            · cases h
          · cases h
      | _ => simp [chkE] at h
    | _ => simp [chkE] at h
  | .oix a b, X, sc, W0, e, c, tk, h => by
    cases e with
    | Subscript a' b' pos =>
      simp only [chkE, Bool.and_eq_true, Bool.not_eq_true'] at h
      obtain ⟨⟨h1, h2⟩, h3⟩ := h
      refine PE.weak (pe_ix ix_seq (soundE a c tk h1) (soundE b c tk h2) (plainIx_ok h3)) ?_
      rintro σ H Q ⟨W, env, obs, S, g⟩
      refine LG.bnd earlyE S g fun x o1 v W1 H1 l1 S1 r1 g1 => ?_
      refine LG.bnd earlyE S1 g1 fun y o2 u W2 H2 l2 S2 r2 g2 => ?_
      obtain ⟨d, e, q⟩ := GP.opt g2
      cases y with
      | int i =>
        cases r2
        rw [Option.bind_eq_some_iff] at e
        obtain ⟨ds, e1, e2⟩ := e
        obtain ⟨n, rfl, e3⟩ := lsO_some e1
        obtain ⟨p, vs, rfl, _, hp, rs⟩ := S2.ols (l2.d.rep r1) e3
        obtain ⟨w, a1, a2⟩ := rs.atI e2
        exact .inl ⟨p, vs, _, w, rfl, rfl, SqL.of hp, a1, q _ W2 H2 .refl S2 a2⟩
      | _ => cases e
    | _ => simp [chkE] at h
  | .olen a, X, sc, W0, e, c, tk, h => by
    cases e with
    | Call g es' kws pos =>
      cases g with
      | Name x p =>
        cases kws with
        | cons _ _ => simp [chkE] at h
        | nil =>
          unfold chkE at h
          split at h
          · simp only [Bool.and_eq_true, Bool.not_eq_true', beq_iff_eq] at h
            obtain ⟨⟨⟨⟨rfl, h1⟩, h2⟩, h3⟩, h4⟩ := h
            obtain ⟨b1, b2, b3⟩ := boot_B "len" (by decide)
            refine PE.weak (pe_callB call_len (glB_ok c.hsc h1) (c.mo.bi _ (by simpa using h2)) b1 (pa_cons (soundE a c tk h3) pa_nil (star_ok h4)) b2 b3 (star_ok h4) rfl) ?_
            rintro σ H Q ⟨W, env, obs, S, g⟩
            refine LG.bnd earlyE S g fun x o1 v W1 H1 l1 S1 r1 g1 => ?_
            obtain ⟨d, e, q⟩ := GP.opt g1
            rw [Option.map_eq_some_iff] at e
            obtain ⟨ds, e1, rfl⟩ := e
            obtain ⟨n, rfl, e3⟩ := lsO_some e1
            obtain ⟨p, vs, rfl, _, hp, rs⟩ := S1.ols r1 e3
            exact ⟨_, vs.length, rfl, .inl ⟨vs, SqL.of hp, rfl⟩, by rw [rs.length]; exact q _ W1 H1 .refl S1 (.int _)⟩
          · cases h
      | _ => simp [chkE] at h
    | _ => simp [chkE] at h
  | .olist a, X, sc, W0, e, c, tk, h => by
    cases e with
    | Call g es' kws pos =>
      cases g with
      | Name x p =>
        cases kws with
        | cons _ _ => simp [chkE] at h
        | nil =>
          unfold chkE at h
          split at h
          · simp only [Bool.and_eq_true, Bool.not_eq_true', beq_iff_eq] at h
            obtain ⟨⟨⟨⟨rfl, h1⟩, h2⟩, h3⟩, h4⟩ := h
            obtain ⟨b1, b2, b3⟩ := boot_T "list" (by decide)
            refine PE.weak (pe_callTy call_list_of (glB_ok c.hsc h1) (c.mo.bi _ (by simpa using h2)) b1 (pa_cons (soundE a c tk h3) pa_nil (star_ok h4)) b2 b3 (star_ok h4) rfl) ?_
            rintro σ H Q ⟨W, env, obs, S, g⟩
            refine LG.bnd earlyE S g fun x o1 v W1 H1 l1 S1 r1 g1 => ?_
            cases x with
            | lst ds =>
              obtain ⟨q, vs, rfl, hp, rs⟩ := S1.lst r1
              exact ⟨q, vs, rfl, .inl (SqL.of hp), GP.onew S1 g1 rs⟩
            | tup ds =>
              obtain ⟨q, vs, rfl, hp, rs⟩ := S1.tup r1
              exact ⟨q, vs, rfl, .inr hp, GP.onew S1 g1 rs⟩
            | _ => exact g1.elim
          · cases h
      | _ => simp [chkE] at h
    | _ => simp [chkE] at h
  | .onew es, X, sc, W0, e, c, tk, h => by
    cases e with
    | List es' pos =>
      refine PE.weak (pe_lst (soundEs es c tk (by simpa [chkE] using h))) ?_
      rintro σ H Q ⟨W, env, obs, S, g⟩
      refine LG.bnd earlyE S g fun ds o1 vs W1 H1 l1 S1 r1 g1 => ?_
      split at g1
      · rename_i hl
        have r1 : W1.reps X.K vs ds := r1
        exact ⟨by rw [r1.length]; exact hl, GP.onew S1 g1 r1⟩
      · exact g1.elim
    | _ => simp [chkE] at h
  | .om m a b, X, sc, W0, e, c, tk, h => by
    cases e with
    | Call f es' kws cpos =>
      cases f with
      | Attribute a' m' apos =>
        cases kws with
        | cons _ _ => simp [chkE] at h
        | nil =>
          unfold chkE at h
          split at h
          · simp only [Bool.and_eq_true, Bool.not_eq_true', beq_iff_eq] at h
            obtain ⟨⟨⟨⟨⟨⟨rfl, h1⟩, h2⟩, h3⟩, h4⟩, h5⟩, h6⟩ := h
            have hst := star_ok (es := []) (env := X.env) h6
            have ha := soundE a c tk h4
            have hb := pa_cons (soundE b c tk h5) pa_nil hst
            have h1 : m ∈ oMs := by simpa using h1
            simp only [oMs, List.mem_cons, List.not_mem_nil, or_false] at h1
            have fin : ∀ {r : V → List V → Hp → VK → Prop}, (∀ (W : Wd) (σ : L2.St) (H : Hp) (env : Env) (o : Obs) (x d : D) (v u : V) (y : D × Obs) (ds : List D) (Q : V → Hp → Prop), SRel X.K CA W σ H env o → W.rep X.K v x → W.rep X.K u d → omD m o x d = some y →
                (∀ w W' H', W.leE W' H H' → SRel X.K CA W' σ H' env y.2 → W'.rep X.K w y.1 → Q w H') → r v [u] H Q) →
                ∀ σ H Q, LE X.K CA W0 (denE Φ G (.om m a b)) σ H Q → tBM X.K "list" r (LE X.K CA W0 (denE Φ G a)) (tCons (LE X.K CA W0 (denE Φ G b)) tNil) σ H Q := by
              intro r hr σ H Q ⟨W, env, obs, S, g⟩
              refine LG.bnd earlyE S g fun x o1 v W1 H1 l1 S1 r1 g1 => ?_
              cases hl : lsO o1 x with
              | none => simp only [hl] at g1; exact g1.elim
              | some ds =>
                simp only [hl] at g1
                obtain ⟨n, rfl, e3⟩ := lsO_some hl
                obtain ⟨p, vs, rfl, _, hp, rs⟩ := S1.ols r1 e3
                refine ⟨.inl ⟨rfl, vs, SqL.of hp⟩, ?_⟩
                refine LG.bnd earlyE S1 g1 fun d o2 u W2 H2 l2 S2 r2 g2 => ?_
                cases hy : omD m o2 (.obj n) d with
                | none => simp only [hy] at g2; exact g2.elim
                | some y =>
                  simp only [hy] at g2
                  exact hr W2 σ H2 env o2 _ d _ u y ds Q S2 (l2.d.rep r1) r2 hy g2
            rcases h1 with rfl | rfl | rfl
            · refine PE.weak (pe_bm PySem.F.plainAttrs_list PySem.F.slot_list_append PySem.F.type_list_append mt_append ha hb (base_ok h2) (by rw [hst]; rfl) (by simpa using h3) hst rfl) (fin ?_)
              intro W σ H env o x d v u y ds Q S rx rd hy q
              unfold omD at hy
              cases hl : lsO o x with
              | none => simp [hl] at hy
              | some es =>
                simp only [hl, beq_self_eq_true, if_true] at hy
                split at hy
                · rename_i hlt
                  cases hy
                  obtain ⟨n, rfl, e3⟩ := lsO_some hl
                  obtain ⟨p, vs, rfl, hA, hp, rs⟩ := S.ols rx e3
                  obtain ⟨S2, l2⟩ := S.owrite (o := .lst (vs ++ [u])) (ob := .ls (es ++ [d])) hA (List.getElem?_eq_some_iff.mp e3).1 ⟨_, upd_same, rs.append (Reps.one rd)⟩
                  exact ⟨p, vs, u, rfl, rfl, hp, by rw [rs.length]; exact hlt, q _ W _ l2 S2 .non⟩
                · cases hy
            · refine PE.weak (pe_bm PySem.F.plainAttrs_list PySem.F.slot_list_extend PySem.F.type_list_extend mt_extend ha hb (base_ok h2) (by rw [hst]; rfl) (by simpa using h3) hst rfl) (fin ?_)
              intro W σ H env o x d v u y ds Q S rx rd hy q
              unfold omD at hy
              cases hl : lsO o x with
              | none => simp [hl] at hy
              | some es =>
                simp only [hl, show (("extend" : String) == "append") = false from by decide, beq_self_eq_true, if_true, Bool.false_eq_true, if_false] at hy
                cases d with
                | lst fs =>
                  simp only at hy
                  split at hy
                  · rename_i hlt
                    cases hy
                    obtain ⟨n, rfl, e3⟩ := lsO_some hl
                    obtain ⟨p, vs, rfl, hA, hp, rs⟩ := S.ols rx e3
                    obtain ⟨b, us, rfl, hb', rb⟩ := S.lst rd
                    obtain ⟨S2, l2⟩ := S.owrite (o := .lst (vs ++ us)) (ob := .ls (es ++ fs)) hA (List.getElem?_eq_some_iff.mp e3).1 ⟨_, upd_same, rs.append rb⟩
                    exact ⟨p, b, vs, us, rfl, rfl, hp, hb', by rw [rs.length, rb.length]; exact hlt, q _ W _ l2 S2 .non⟩
                  · cases hy
                | _ => simp at hy
            · refine PE.weak (pe_bm PySem.F.plainAttrs_list PySem.F.slot_list_pop PySem.F.type_list_pop mt_popAt ha hb (base_ok h2) (by rw [hst]; rfl) (by simpa using h3) hst rfl) (fin ?_)
              intro W σ H env o x d v u y ds Q S rx rd hy q
              unfold omD at hy
              cases hl : lsO o x with
              | none => simp [hl] at hy
              | some es =>
                simp only [hl, show (("pop" : String) == "append") = false from by decide, show (("pop" : String) == "extend") = false from by decide, beq_self_eq_true, if_true, Bool.false_eq_true, if_false] at hy
                cases d with
                | int i =>
                  simp only at hy
                  split at hy
                  · rename_i hlt
                    have hlt := of_decide_eq_true hlt
                    cases hk : seqIndex? i es.length with
                    | none => simp [hk] at hy
                    | some k =>
                      simp only [hk, Option.map_eq_some_iff] at hy
                      obtain ⟨w, hw, rfl⟩ := hy
                      cases rd
                      obtain ⟨n, rfl, e3⟩ := lsO_some hl
                      obtain ⟨p, vs, rfl, hA, hp, rs⟩ := S.ols rx e3
                      obtain ⟨z, hz, rz⟩ := rs.get hw
                      obtain ⟨S2, l2⟩ := S.owrite (o := .lst (vs.eraseIdx k)) (ob := .ls (es.eraseIdx k)) hA (List.getElem?_eq_some_iff.mp e3).1 ⟨_, upd_same, rs.eraseIdx k⟩
                      exact ⟨p, vs, i, k, z, rfl, rfl, hp, hlt.1, hlt.2, by rw [rs.length]; exact hk, hz, q _ W _ l2 S2 rz⟩
                  · cases hy
                | _ => simp at hy
          · cases h
      | _ => simp [chkE] at h
    | _ => simp [chkE] at h
  | .bor i a, X, sc, W0, e, c, tk, h => by
    refine PE.weak (soundE a c tk (by simpa [chkE] using h)) fun σ H Q g => ?_
    refine bor_of (ok := noL) (fun W W1 W' W2 H' v d r k hF hA => ?_) g
    show Rep X.K W2.F W2.A v d
    rw [hA]; exact Rep.noL hF r k
theorem soundCon : ∀ (es : Es) {X : Cx} {sc : Scope} {W0 : WX} {es' : List Expr} {pos : Pos}, Ctx CA fs bs N G Φ n sc X → Takes X W0 → chkEs fs bs N sc es es' = true → PE X (.BoolOp .And es' pos) (LE X.K CA W0 (denCon Φ G es))
  | .nil, X, sc, W0, es', pos, c, tk, h => by
    cases es' with
    | nil => exact ⟨fun pins s σ H Q I ⟨W, env, obs, S, g⟩ => g.elim⟩
    | cons _ _ => simp [chkEs] at h
  | .cons a .nil, X, sc, W0, es', pos, c, tk, h => by
    cases es' with
    | nil => simp [chkEs] at h
    | cons a' r' =>
      simp only [chkEs, Bool.and_eq_true] at h
      cases r' with
      | nil => exact PE.weak (pe_one (soundE a c tk h.1.1)) fun σ H Q g => g
      | cons _ _ => simp [chkEs] at h
  | .cons a (.cons b r), X, sc, W0, es', pos, c, tk, h => by
    cases es' with
    | nil => simp [chkEs] at h
    | cons a' r' =>
      cases r' with
      | nil => simp [chkEs] at h
      | cons b' r' =>
        have h1 : chkE fs bs N sc a a' = true := by simp only [chkEs, Bool.and_eq_true] at h; exact h.1.1
        have h2 : chkEs fs bs N sc (.cons b r) (b' :: r') = true := by
          unfold chkEs at h; simp only [Bool.and_eq_true] at h; exact h.2
        refine PE.weak (pe_and (soundE a c tk h1) (soundCon (.cons b r) c tk h2)) ?_
        rintro σ H Q ⟨W, env, obs, S, g⟩
        refine LG.bnd earlyE S g fun x o1 v W1 H1 l1 S1 r1 g1 => ?_
        cases x with
        | bl k =>
          cases r1
          cases k with
          | true => exact ⟨true, rfl, W1, env, o1, S1, g1⟩
          | false => exact ⟨false, rfl, g1 _ W1 H1 .refl S1 (.bl _)⟩
        | _ => exact g1.elim
theorem soundDis : ∀ (es : Es) {X : Cx} {sc : Scope} {W0 : WX} {es' : List Expr} {pos : Pos}, Ctx CA fs bs N G Φ n sc X → Takes X W0 → chkEs fs bs N sc es es' = true → PE X (.BoolOp .Or es' pos) (LE X.K CA W0 (denDis Φ G es))
  | .nil, X, sc, W0, es', pos, c, tk, h => by
    cases es' with
    | nil => exact ⟨fun pins s σ H Q I ⟨W, env, obs, S, g⟩ => g.elim⟩
    | cons _ _ => simp [chkEs] at h
  | .cons a .nil, X, sc, W0, es', pos, c, tk, h => by
    cases es' with
    | nil => simp [chkEs] at h
    | cons a' r' =>
      simp only [chkEs, Bool.and_eq_true] at h
      cases r' with
      | nil => exact PE.weak (pe_one (soundE a c tk h.1.1)) fun σ H Q g => g
      | cons _ _ => simp [chkEs] at h
  | .cons a (.cons b r), X, sc, W0, es', pos, c, tk, h => by
    cases es' with
    | nil => simp [chkEs] at h
    | cons a' r' =>
      cases r' with
      | nil => simp [chkEs] at h
      | cons b' r' =>
        have h1 : chkE fs bs N sc a a' = true := by simp only [chkEs, Bool.and_eq_true] at h; exact h.1.1
        have h2 : chkEs fs bs N sc (.cons b r) (b' :: r') = true := by
          unfold chkEs at h; simp only [Bool.and_eq_true] at h; exact h.2
        refine PE.weak (pe_or (soundE a c tk h1) (soundDis (.cons b r) c tk h2)) ?_
        rintro σ H Q ⟨W, env, obs, S, g⟩
        refine LG.bnd earlyE S g fun x o1 v W1 H1 l1 S1 r1 g1 => ?_
        cases x with
        | bl k =>
          cases r1
          cases k with
          | false => exact ⟨false, rfl, W1, env, o1, S1, g1⟩
          | true => exact ⟨true, rfl, g1 _ W1 H1 .refl S1 (.bl _)⟩
        | _ => exact g1.elim
theorem soundTC : ∀ (es : Es) {X : Cx} {sc : Scope} {W0 : WX} {es' : List Expr} {pos : Pos}, Ctx CA fs bs N G Φ n sc X → Takes X W0 → chkEs fs bs N sc es es' = true → PW X (.BoolOp .And es' pos) (LT X.K CA W0 (denTC Φ G es))
  | .nil, X, sc, W0, es', pos, c, tk, h => by
    cases es' with
    | nil => exact ⟨fun wh pins s σ H Q I ⟨W, env, obs, S, g⟩ => g.elim⟩
    | cons _ _ => simp [chkEs] at h
  | .cons a .nil, X, sc, W0, es', pos, c, tk, h => by
    cases es' with
    | nil => simp [chkEs] at h
    | cons a' r' =>
      simp only [chkEs, Bool.and_eq_true] at h
      cases r' with
      | nil => exact PW.weak (pw_and1 (soundT a c tk h.1.1)) fun σ H Q g => g
      | cons _ _ => simp [chkEs] at h
  | .cons a (.cons b r), X, sc, W0, es', pos, c, tk, h => by
    cases es' with
    | nil => simp [chkEs] at h
    | cons a' r' =>
      cases r' with
      | nil => simp [chkEs] at h
      | cons b' r' =>
        have h1 : chkE fs bs N sc a a' = true := by simp only [chkEs, Bool.and_eq_true] at h; exact h.1.1
        have h2 : chkEs fs bs N sc (.cons b r) (b' :: r') = true := by
          unfold chkEs at h; simp only [Bool.and_eq_true] at h; exact h.2
        refine PW.weak (pw_and (soundT a c tk h1) (soundTC (.cons b r) c tk h2)) ?_
        rintro σ H Q ⟨W, env, obs, S, g⟩
        refine LG.bnd earlyT S g fun x o1 v W1 H1 l1 S1 r1 g1 => ?_
        have r1 : v = x := r1
        subst r1
        cases v with
        | true => exact ⟨W1, env, o1, S1, g1⟩
        | false => exact g1 _ W1 H1 .refl S1 rfl
theorem soundTD : ∀ (es : Es) {X : Cx} {sc : Scope} {W0 : WX} {es' : List Expr} {pos : Pos}, Ctx CA fs bs N G Φ n sc X → Takes X W0 → chkEs fs bs N sc es es' = true → PW X (.BoolOp .Or es' pos) (LT X.K CA W0 (denTD Φ G es))
  | .nil, X, sc, W0, es', pos, c, tk, h => by
    cases es' with
    | nil => exact ⟨fun wh pins s σ H Q I ⟨W, env, obs, S, g⟩ => g.elim⟩
    | cons _ _ => simp [chkEs] at h
  | .cons a .nil, X, sc, W0, es', pos, c, tk, h => by
    cases es' with
    | nil => simp [chkEs] at h
    | cons a' r' =>
      simp only [chkEs, Bool.and_eq_true] at h
      cases r' with
      | nil => exact PW.weak (pw_or1 (soundT a c tk h.1.1)) fun σ H Q g => g
      | cons _ _ => simp [chkEs] at h
  | .cons a (.cons b r), X, sc, W0, es', pos, c, tk, h => by
    cases es' with
    | nil => simp [chkEs] at h
    | cons a' r' =>
      cases r' with
      | nil => simp [chkEs] at h
      | cons b' r' =>
        have h1 : chkE fs bs N sc a a' = true := by simp only [chkEs, Bool.and_eq_true] at h; exact h.1.1
        have h2 : chkEs fs bs N sc (.cons b r) (b' :: r') = true := by
          unfold chkEs at h; simp only [Bool.and_eq_true] at h; exact h.2
        refine PW.weak (pw_or (soundT a c tk h1) (soundTD (.cons b r) c tk h2)) ?_
        rintro σ H Q ⟨W, env, obs, S, g⟩
        refine LG.bnd earlyT S g fun x o1 v W1 H1 l1 S1 r1 g1 => ?_
        have r1 : v = x := r1
        subst r1
        cases v with
        | false => exact ⟨W1, env, o1, S1, g1⟩
        | true => exact g1 _ W1 H1 .refl S1 rfl
theorem soundEs : ∀ (es : Es) {X : Cx} {sc : Scope} {W0 : WX} {es' : List Expr}, Ctx CA fs bs N G Φ n sc X → Takes X W0 → chkEs fs bs N sc es es' = true → PA X es' (LA X.K CA W0 (denEs Φ G es))
  | .nil, X, sc, W0, es', c, tk, h => by
    cases es' with
    | nil => exact PA.weak pa_nil fun σ H Q ⟨W, env, obs, S, g⟩ => g [] W H .refl S .nil
    | cons _ _ => simp [chkEs] at h
  | .cons a r, X, sc, W0, es', c, tk, h => by
    cases es' with
    | nil => simp [chkEs] at h
    | cons a' r' =>
      simp only [chkEs, Bool.and_eq_true, Bool.not_eq_true'] at h
      refine PA.weak (pa_cons (soundE a c tk h.1.1) (soundEs r c tk h.2) (star_ok h.1.2)) ?_
      rintro σ H Q ⟨W, env, obs, S, g⟩
      refine LG.bnd earlyA S g fun x o1 v W1 H1 l1 S1 r1 g1 => ?_
      refine LG.bnd earlyA S1 g1 fun xs o2 vs W2 H2 l2 S2 r2 g2 => ?_
      exact g2 _ W2 H2 .refl S2 (.cons (l2.d.rep r1) r2)
theorem soundO : ∀ (m : Eo) {X : Cx} {sc : Scope} {W0 : WX} {e : Option Expr}, Ctx CA fs bs N G Φ n sc X → Takes X W0 → chkO fs bs N sc m e = true → PO X e (LO X.K CA W0 (denO Φ G m))
  | .none, X, sc, W0, e, c, tk, h => by
    cases e with
    | none => exact ⟨fun pins s σ H Q I ⟨W, env, obs, S, g⟩ => po_none.run pins s σ H Q I (g none W H .refl S rfl)⟩
    | some _ => simp [chkO] at h
  | .some a, X, sc, W0, e, c, tk, h => by
    cases e with
    | none => simp [chkO] at h
    | some e =>
      refine ⟨fun pins s σ H Q I ⟨W, env, obs, S, g⟩ => (po_some (soundE a c tk (by simpa [chkO] using h))).run pins s σ H Q I ?_⟩
      refine LG.bnd earlyO S g fun x o1 v W1 H1 l1 S1 r1 g1 => ?_
      cases x with
      | int i => cases r1; exact ⟨i, rfl, g1 _ W1 H1 .refl S1 rfl⟩
      | _ => exact g1.elim
theorem soundC : ∀ (m : Eo) {X : Cx} {sc : Scope} {W0 : WX} {es : List Expr}, Ctx CA fs bs N G Φ n sc X → Takes X W0 → chkC fs bs N sc m es = true → PTs X es (LT X.K CA W0 (denC Φ G m))
  | .none, X, sc, W0, es, c, tk, h => by
    cases es with
    | nil => exact ⟨fun pins s σ H Q I ⟨W, env, obs, S, g⟩ => pts_nil.run pins s σ H Q I (g true W H .refl S rfl)⟩
    | cons _ _ => simp [chkC] at h
  | .some a, X, sc, W0, es, c, tk, h => by
    cases es with
    | nil => simp [chkC] at h
    | cons e r =>
      cases r with
      | nil => exact pts_one (soundT a c tk (by simpa [chkC] using h))
      | cons _ _ => simp [chkC] at h
theorem soundT : ∀ (m : E) {X : Cx} {sc : Scope} {W0 : WX} {e : Expr}, Ctx CA fs bs N G Φ n sc X → Takes X W0 → chkE fs bs N sc m e = true → PT X e (LT X.K CA W0 (denT Φ G m))
  | .not a, X, sc, W0, e, c, tk, h => by
    cases e with
    | UnaryOp op a' pos =>
      cases op with
      | Not =>
        refine PT.weak (pt_not (soundT a c tk (by simpa [chkE] using h))) ?_
        rintro σ H Q ⟨W, env, obs, S, g⟩
        refine LG.bnd earlyT S g fun x o1 v W1 H1 l1 S1 r1 g1 => ?_
        have r1 : v = x := r1
        subst r1
        exact g1 _ W1 H1 .refl S1 rfl
      | _ => simp [chkE] at h
    | _ => simp [chkE] at h
  | .con es, X, sc, W0, e, c, tk, h => by
    cases e with
    | BoolOp op es' pos =>
      cases op with
      | And => exact (soundTC es c tk (by simpa [chkE] using h)).pt
      | _ => simp [chkE] at h
    | _ => simp [chkE] at h
  | .dis es, X, sc, W0, e, c, tk, h => by
    cases e with
    | BoolOp op es' pos =>
      cases op with
      | Or => exact (soundTD es c tk (by simpa [chkE] using h)).pt
      | _ => simp [chkE] at h
    | _ => simp [chkE] at h
  | .ife k a b, X, sc, W0, e, c, tk, h => by
    cases e with
    | IfExp k' a' b' pos =>
      simp only [chkE, Bool.and_eq_true] at h
      obtain ⟨⟨h1, h2⟩, h3⟩ := h
      refine PT.weak (pt_ifE (soundT k c tk h1) (soundT a c tk h2) (soundT b c tk h3)) ?_
      rintro σ H Q ⟨W, env, obs, S, g⟩
      refine LG.bnd earlyT S g fun x o1 v W1 H1 l1 S1 r1 g1 => ?_
      have r1 : v = x := r1
      subst r1
      cases v with
      | true => exact ⟨W1, env, o1, S1, g1⟩
      | false => exact ⟨W1, env, o1, S1, g1⟩
    | _ => simp [chkE] at h
  | .bor i a, X, sc, W0, e, c, tk, h => by
    refine PT.weak (soundT a c tk (by simpa [chkE] using h)) fun σ H Q g => ?_
    exact bor_of (f := denT Φ G a) (i := i) (ok := fun _ => true) (fun W W1 W' W2 H' v d r k hF hA => r) g
  | .cmp op a b, X, sc, W0, e, c, tk, h => by
    cases e with
    | Compare a' ops bs' pos =>
      unfold chkE at h
      split at h
      · simp only [Bool.and_eq_true, decide_eq_true_eq, Bool.not_eq_true'] at h
        obtain ⟨⟨⟨rfl, h1⟩, h2⟩, h3⟩ := h
        obtain ⟨r, hr, hop⟩ := cmp_ok (X := X) (CA := CA) (by have := c.room.un; omega) op
        refine PT.weak (pt_cmpR hr (soundE a c tk h1) (soundE b c tk h2) (behind_ok h3)) ?_
        rintro σ H Q ⟨W, env, obs, S, g⟩
        have g : GP X.K CA W0 relT W env σ H Q (((denE Φ G a env obs).bind fun x o => (denE Φ G b env o).bind fun y o => R.opt o ((cmpD op x y).map .bl)).bind fun x o => R.opt o (truD x)) := g
        rw [R.bind_assoc] at g
        refine LG.bnd earlyT S g fun x o1 v W1 H1 l1 S1 r1 g1 => ?_
        rw [R.bind_assoc] at g1
        refine LG.bnd earlyT S1 g1 fun y o2 u W2 H2 l2 S2 r2 g2 => ?_
        cases hc : cmpD op x y with
        | none => rw [hc] at g2; exact g2.elim
        | some k =>
          rw [hc] at g2
          exact hop W2 σ H2 env o2 v u x y k _ S2 (l2.d.rep r1) r2 hc ⟨k, rfl, g2 _ W2 H2 .refl S2 rfl⟩
      · cases h
    | _ => simp [chkE] at h
  | .chn o1 o2 a b d, X, sc, W0, e, c, tk, h => by
    cases e with
    | Compare a' ops bs' pos =>
      unfold chkE at h
      split at h
      · simp only [Bool.and_eq_true, decide_eq_true_eq, Bool.not_eq_true'] at h
        obtain ⟨⟨⟨⟨⟨rfl, rfl⟩, h1⟩, h2⟩, h3⟩, h4⟩ := h
        obtain ⟨r, hr, hop⟩ := cmp_ok (X := X) (CA := CA) (by have := c.room.un; omega) o1
        obtain ⟨r', hr', hop'⟩ := cmp_ok (X := X) (CA := CA) (by have := c.room.un; omega) o2
        refine PT.weak (pt_chain hr hr' (soundE a c tk h1) (soundE b c tk h2) (soundE d c tk h3) (by unfold lastMarks; exact behind_ok h4)) ?_
        rintro σ H Q ⟨W, env, obs, S, g⟩
        have g : GP X.K CA W0 relT W env σ H Q (((denE Φ G a env obs).bind fun x o => (denE Φ G b env o).bind fun y o => match cmpD o1 x y with
          | some true => (denE Φ G d env o).bind fun z o => R.opt o ((cmpD o2 y z).map .bl)
          | some false => .ok (.bl false) o
          | none => .bad).bind fun x o => R.opt o (truD x)) := g
        rw [R.bind_assoc] at g
        refine LG.bnd earlyT S g fun x oo1 v W1 H1 l1 S1 r1 g1 => ?_
        rw [R.bind_assoc] at g1
        refine LG.bnd earlyT S1 g1 fun y oo2 u W2 H2 l2 S2 r2 g2 => ?_
        cases hc : cmpD o1 x y with
        | none => rw [hc] at g2; exact g2.elim
        | some k =>
          rw [hc] at g2
          refine hop W2 σ H2 env oo2 v u x y k _ S2 (l2.d.rep r1) r2 hc ⟨k, rfl, ?_⟩
          cases k with
          | false => exact ⟨false, rfl, g2 _ W2 H2 .refl S2 rfl⟩
          | true =>
            rw [if_pos rfl]
            simp only [R.bind_assoc] at g2
            refine LG.bnd earlyT S2 g2 fun z oo3 w W3 H3 l3 S3 r3 g3 => ?_
            cases hd : cmpD o2 y z with
            | none => rw [hd] at g3; exact g3.elim
            | some k =>
              rw [hd] at g3
              exact hop' W3 σ H3 env oo3 u w y z k _ S3 (l3.d.rep r2) r3 hd ⟨k, rfl, g3 _ W3 H3 .refl S3 rfl⟩
      · cases h
    | _ => simp [chkE] at h
  | .lit d, X, sc, W0, e, c, tk, h => by
    refine PT.weak (pt_truth (soundE (.lit d) c tk h) (plainT_ok (by cases e <;> first | rfl | (simp [chkE] at h) | (rename_i op _ _; cases op <;> first | rfl | (simp [chkE] at h))))) ?_
    rintro σ H Q ⟨W, env, obs, S, g⟩
    have g : GP X.K CA W0 relT W env σ H Q ((denE Φ G (.lit d) env obs).bind fun x o => R.opt o (truD x)) := g
    refine LG.bnd earlyT S g fun x o1 v W1 H1 l1 S1 r1 g1 => ?_
    cases ht : truD x with
    | none => rw [ht] at g1; exact g1.elim
    | some k => rw [ht] at g1; exact ⟨k, tru_of S1 r1 ht, g1 _ W1 H1 .refl S1 rfl⟩
  | .var i, X, sc, W0, e, c, tk, h => by
    refine PT.weak (pt_truth (soundE (.var i) c tk h) (plainT_ok (by cases e <;> first | rfl | (simp [chkE] at h) | (rename_i op _ _; cases op <;> first | rfl | (simp [chkE] at h))))) ?_
    rintro σ H Q ⟨W, env, obs, S, g⟩
    have g : GP X.K CA W0 relT W env σ H Q ((denE Φ G (.var i) env obs).bind fun x o => R.opt o (truD x)) := g
    refine LG.bnd earlyT S g fun x o1 v W1 H1 l1 S1 r1 g1 => ?_
    cases ht : truD x with
    | none => rw [ht] at g1; exact g1.elim
    | some k => rw [ht] at g1; exact ⟨k, tru_of S1 r1 ht, g1 _ W1 H1 .refl S1 rfl⟩
  | .glob x, X, sc, W0, e, c, tk, h => by
    refine PT.weak (pt_truth (soundE (.glob x) c tk h) (plainT_ok (by cases e <;> first | rfl | (simp [chkE] at h) | (rename_i op _ _; cases op <;> first | rfl | (simp [chkE] at h))))) ?_
    rintro σ H Q ⟨W, env, obs, S, g⟩
    have g : GP X.K CA W0 relT W env σ H Q ((denE Φ G (.glob x) env obs).bind fun x o => R.opt o (truD x)) := g
    refine LG.bnd earlyT S g fun x o1 v W1 H1 l1 S1 r1 g1 => ?_
    cases ht : truD x with
    | none => rw [ht] at g1; exact g1.elim
    | some k => rw [ht] at g1; exact ⟨k, tru_of S1 r1 ht, g1 _ W1 H1 .refl S1 rfl⟩
  | .bin op a b, X, sc, W0, e, c, tk, h => by
    refine PT.weak (pt_truth (soundE (.bin op a b) c tk h) (plainT_ok (by cases e <;> first | rfl | (simp [chkE] at h) | (rename_i op _ _; cases op <;> first | rfl | (simp [chkE] at h))))) ?_
    rintro σ H Q ⟨W, env, obs, S, g⟩
    have g : GP X.K CA W0 relT W env σ H Q ((denE Φ G (.bin op a b) env obs).bind fun x o => R.opt o (truD x)) := g
    refine LG.bnd earlyT S g fun x o1 v W1 H1 l1 S1 r1 g1 => ?_
    cases ht : truD x with
    | none => rw [ht] at g1; exact g1.elim
    | some k => rw [ht] at g1; exact ⟨k, tru_of S1 r1 ht, g1 _ W1 H1 .refl S1 rfl⟩
  | .neg a, X, sc, W0, e, c, tk, h => by
    refine PT.weak (pt_truth (soundE (.neg a) c tk h) (plainT_ok (by cases e <;> first | rfl | (simp [chkE] at h) | (rename_i op _ _; cases op <;> first | rfl | (simp [chkE] at h))))) ?_
    rintro σ H Q ⟨W, env, obs, S, g⟩
    have g : GP X.K CA W0 relT W env σ H Q ((denE Φ G (.neg a) env obs).bind fun x o => R.opt o (truD x)) := g
    refine LG.bnd earlyT S g fun x o1 v W1 H1 l1 S1 r1 g1 => ?_
    cases ht : truD x with
    | none => rw [ht] at g1; exact g1.elim
    | some k => rw [ht] at g1; exact ⟨k, tru_of S1 r1 ht, g1 _ W1 H1 .refl S1 rfl⟩
  | .tup es, X, sc, W0, e, c, tk, h => by
    refine PT.weak (pt_truth (soundE (.tup es) c tk h) (plainT_ok (by cases e <;> first | rfl | (simp [chkE] at h) | (rename_i op _ _; cases op <;> first | rfl | (simp [chkE] at h))))) ?_
    rintro σ H Q ⟨W, env, obs, S, g⟩
    have g : GP X.K CA W0 relT W env σ H Q ((denE Φ G (.tup es) env obs).bind fun x o => R.opt o (truD x)) := g
    refine LG.bnd earlyT S g fun x o1 v W1 H1 l1 S1 r1 g1 => ?_
    cases ht : truD x with
    | none => rw [ht] at g1; exact g1.elim
    | some k => rw [ht] at g1; exact ⟨k, tru_of S1 r1 ht, g1 _ W1 H1 .refl S1 rfl⟩
  | .lst es, X, sc, W0, e, c, tk, h => by
    refine PT.weak (pt_truth (soundE (.lst es) c tk h) (plainT_ok (by cases e <;> first | rfl | (simp [chkE] at h) | (rename_i op _ _; cases op <;> first | rfl | (simp [chkE] at h))))) ?_
    rintro σ H Q ⟨W, env, obs, S, g⟩
    have g : GP X.K CA W0 relT W env σ H Q ((denE Φ G (.lst es) env obs).bind fun x o => R.opt o (truD x)) := g
    refine LG.bnd earlyT S g fun x o1 v W1 H1 l1 S1 r1 g1 => ?_
    cases ht : truD x with
    | none => rw [ht] at g1; exact g1.elim
    | some k => rw [ht] at g1; exact ⟨k, tru_of S1 r1 ht, g1 _ W1 H1 .refl S1 rfl⟩
  | .ix a b, X, sc, W0, e, c, tk, h => by
    refine PT.weak (pt_truth (soundE (.ix a b) c tk h) (plainT_ok (by cases e <;> first | rfl | (simp [chkE] at h) | (rename_i op _ _; cases op <;> first | rfl | (simp [chkE] at h))))) ?_
    rintro σ H Q ⟨W, env, obs, S, g⟩
    have g : GP X.K CA W0 relT W env σ H Q ((denE Φ G (.ix a b) env obs).bind fun x o => R.opt o (truD x)) := g
    refine LG.bnd earlyT S g fun x o1 v W1 H1 l1 S1 r1 g1 => ?_
    cases ht : truD x with
    | none => rw [ht] at g1; exact g1.elim
    | some k => rw [ht] at g1; exact ⟨k, tru_of S1 r1 ht, g1 _ W1 H1 .refl S1 rfl⟩
  | .sl a lo hi, X, sc, W0, e, c, tk, h => by
    refine PT.weak (pt_truth (soundE (.sl a lo hi) c tk h) (plainT_ok (by cases e <;> first | rfl | (simp [chkE] at h) | (rename_i op _ _; cases op <;> first | rfl | (simp [chkE] at h))))) ?_
    rintro σ H Q ⟨W, env, obs, S, g⟩
    have g : GP X.K CA W0 relT W env σ H Q ((denE Φ G (.sl a lo hi) env obs).bind fun x o => R.opt o (truD x)) := g
    refine LG.bnd earlyT S g fun x o1 v W1 H1 l1 S1 r1 g1 => ?_
    cases ht : truD x with
    | none => rw [ht] at g1; exact g1.elim
    | some k => rw [ht] at g1; exact ⟨k, tru_of S1 r1 ht, g1 _ W1 H1 .refl S1 rfl⟩
  | .rev a, X, sc, W0, e, c, tk, h => by
    refine PT.weak (pt_truth (soundE (.rev a) c tk h) (plainT_ok (by cases e <;> first | rfl | (simp [chkE] at h) | (rename_i op _ _; cases op <;> first | rfl | (simp [chkE] at h))))) ?_
    rintro σ H Q ⟨W, env, obs, S, g⟩
    have g : GP X.K CA W0 relT W env σ H Q ((denE Φ G (.rev a) env obs).bind fun x o => R.opt o (truD x)) := g
    refine LG.bnd earlyT S g fun x o1 v W1 H1 l1 S1 r1 g1 => ?_
    cases ht : truD x with
    | none => rw [ht] at g1; exact g1.elim
    | some k => rw [ht] at g1; exact ⟨k, tru_of S1 r1 ht, g1 _ W1 H1 .refl S1 rfl⟩
  | .call f es, X, sc, W0, e, c, tk, h => by
    refine PT.weak (pt_truth (soundE (.call f es) c tk h) (plainT_ok (by cases e <;> first | rfl | (simp [chkE] at h) | (rename_i op _ _; cases op <;> first | rfl | (simp [chkE] at h))))) ?_
    rintro σ H Q ⟨W, env, obs, S, g⟩
    have g : GP X.K CA W0 relT W env σ H Q ((denE Φ G (.call f es) env obs).bind fun x o => R.opt o (truD x)) := g
    refine LG.bnd earlyT S g fun x o1 v W1 H1 l1 S1 r1 g1 => ?_
    cases ht : truD x with
    | none => rw [ht] at g1; exact g1.elim
    | some k => rw [ht] at g1; exact ⟨k, tru_of S1 r1 ht, g1 _ W1 H1 .refl S1 rfl⟩
  | .bi f es, X, sc, W0, e, c, tk, h => by
    refine PT.weak (pt_truth (soundE (.bi f es) c tk h) (plainT_ok (by cases e <;> first | rfl | (simp [chkE] at h) | (rename_i op _ _; cases op <;> first | rfl | (simp [chkE] at h))))) ?_
    rintro σ H Q ⟨W, env, obs, S, g⟩
    have g : GP X.K CA W0 relT W env σ H Q ((denE Φ G (.bi f es) env obs).bind fun x o => R.opt o (truD x)) := g
    refine LG.bnd earlyT S g fun x o1 v W1 H1 l1 S1 r1 g1 => ?_
    cases ht : truD x with
    | none => rw [ht] at g1; exact g1.elim
    | some k => rw [ht] at g1; exact ⟨k, tru_of S1 r1 ht, g1 _ W1 H1 .refl S1 rfl⟩
  | .isi a t, X, sc, W0, e, c, tk, h => by
    refine PT.weak (pt_truth (soundE (.isi a t) c tk h) (plainT_ok (by cases e <;> first | rfl | (simp [chkE] at h) | (rename_i op _ _; cases op <;> first | rfl | (simp [chkE] at h))))) ?_
    rintro σ H Q ⟨W, env, obs, S, g⟩
    have g : GP X.K CA W0 relT W env σ H Q ((denE Φ G (.isi a t) env obs).bind fun x o => R.opt o (truD x)) := g
    refine LG.bnd earlyT S g fun x o1 v W1 H1 l1 S1 r1 g1 => ?_
    cases ht : truD x with
    | none => rw [ht] at g1; exact g1.elim
    | some k => rw [ht] at g1; exact ⟨k, tru_of S1 r1 ht, g1 _ W1 H1 .refl S1 rfl⟩
  | .oix a b, X, sc, W0, e, c, tk, h => by
    refine PT.weak (pt_truth (soundE (.oix a b) c tk h) (plainT_ok (by cases e <;> first | rfl | (simp [chkE] at h) | (rename_i op _ _; cases op <;> first | rfl | (simp [chkE] at h))))) ?_
    rintro σ H Q ⟨W, env, obs, S, g⟩
    have g : GP X.K CA W0 relT W env σ H Q ((denE Φ G (.oix a b) env obs).bind fun x o => R.opt o (truD x)) := g
    refine LG.bnd earlyT S g fun x o1 v W1 H1 l1 S1 r1 g1 => ?_
    cases ht : truD x with
    | none => rw [ht] at g1; exact g1.elim
    | some k => rw [ht] at g1; exact ⟨k, tru_of S1 r1 ht, g1 _ W1 H1 .refl S1 rfl⟩
  | .olen a, X, sc, W0, e, c, tk, h => by
    refine PT.weak (pt_truth (soundE (.olen a) c tk h) (plainT_ok (by cases e <;> first | rfl | (simp [chkE] at h) | (rename_i op _ _; cases op <;> first | rfl | (simp [chkE] at h))))) ?_
    rintro σ H Q ⟨W, env, obs, S, g⟩
    have g : GP X.K CA W0 relT W env σ H Q ((denE Φ G (.olen a) env obs).bind fun x o => R.opt o (truD x)) := g
    refine LG.bnd earlyT S g fun x o1 v W1 H1 l1 S1 r1 g1 => ?_
    cases ht : truD x with
    | none => rw [ht] at g1; exact g1.elim
    | some k => rw [ht] at g1; exact ⟨k, tru_of S1 r1 ht, g1 _ W1 H1 .refl S1 rfl⟩
  | .onew es, X, sc, W0, e, c, tk, h => by
    refine PT.weak (pt_truth (soundE (.onew es) c tk h) (plainT_ok (by cases e <;> first | rfl | (simp [chkE] at h) | (rename_i op _ _; cases op <;> first | rfl | (simp [chkE] at h))))) ?_
    rintro σ H Q ⟨W, env, obs, S, g⟩
    have g : GP X.K CA W0 relT W env σ H Q ((denE Φ G (.onew es) env obs).bind fun x o => R.opt o (truD x)) := g
    refine LG.bnd earlyT S g fun x o1 v W1 H1 l1 S1 r1 g1 => ?_
    cases ht : truD x with
    | none => rw [ht] at g1; exact g1.elim
    | some k => rw [ht] at g1; exact ⟨k, tru_of S1 r1 ht, g1 _ W1 H1 .refl S1 rfl⟩
  | .olist a, X, sc, W0, e, c, tk, h => by
    refine PT.weak (pt_truth (soundE (.olist a) c tk h) (plainT_ok (by cases e <;> first | rfl | (simp [chkE] at h) | (rename_i op _ _; cases op <;> first | rfl | (simp [chkE] at h))))) ?_
    rintro σ H Q ⟨W, env, obs, S, g⟩
    have g : GP X.K CA W0 relT W env σ H Q ((denE Φ G (.olist a) env obs).bind fun x o => R.opt o (truD x)) := g
    refine LG.bnd earlyT S g fun x o1 v W1 H1 l1 S1 r1 g1 => ?_
    cases ht : truD x with
    | none => rw [ht] at g1; exact g1.elim
    | some k => rw [ht] at g1; exact ⟨k, tru_of S1 r1 ht, g1 _ W1 H1 .refl S1 rfl⟩
  | .om m a b, X, sc, W0, e, c, tk, h => by
    refine PT.weak (pt_truth (soundE (.om m a b) c tk h) (plainT_ok (by cases e <;> first | rfl | (simp [chkE] at h) | (rename_i op _ _; cases op <;> first | rfl | (simp [chkE] at h))))) ?_
    rintro σ H Q ⟨W, env, obs, S, g⟩
    have g : GP X.K CA W0 relT W env σ H Q ((denE Φ G (.om m a b) env obs).bind fun x o => R.opt o (truD x)) := g
    refine LG.bnd earlyT S g fun x o1 v W1 H1 l1 S1 r1 g1 => ?_
    cases ht : truD x with
    | none => rw [ht] at g1; exact g1.elim
    | some k => rw [ht] at g1; exact ⟨k, tru_of S1 r1 ht, g1 _ W1 H1 .refl S1 rfl⟩
  | .mth T m a es, X, sc, W0, e, c, tk, h => by
    refine PT.weak (pt_truth (soundE (.mth T m a es) c tk h) (plainT_ok (by cases e <;> first | rfl | (simp [chkE] at h) | (rename_i op _ _; cases op <;> first | rfl | (simp [chkE] at h))))) ?_
    rintro σ H Q ⟨W, env, obs, S, g⟩
    have g : GP X.K CA W0 relT W env σ H Q ((denE Φ G (.mth T m a es) env obs).bind fun x o => R.opt o (truD x)) := g
    refine LG.bnd earlyT S g fun x o1 v W1 H1 l1 S1 r1 g1 => ?_
    cases ht : truD x with
    | none => rw [ht] at g1; exact g1.elim
    | some k => rw [ht] at g1; exact ⟨k, tru_of S1 r1 ht, g1 _ W1 H1 .refl S1 rfl⟩
  | .lc x tg it k own, X, sc, W0, e, c, tk, h => by
    refine PT.weak (pt_truth (soundE (.lc x tg it k own) c tk h) (plainT_ok (by cases e <;> first | rfl | (simp [chkE] at h) | (rename_i op _ _; cases op <;> first | rfl | (simp [chkE] at h))))) ?_
    rintro σ H Q ⟨W, env, obs, S, g⟩
    have g : GP X.K CA W0 relT W env σ H Q ((denE Φ G (.lc x tg it k own) env obs).bind fun x o => R.opt o (truD x)) := g
    refine LG.bnd earlyT S g fun x o1 v W1 H1 l1 S1 r1 g1 => ?_
    cases ht : truD x with
    | none => rw [ht] at g1; exact g1.elim
    | some k => rw [ht] at g1; exact ⟨k, tru_of S1 r1 ht, g1 _ W1 H1 .refl S1 rfl⟩
  | .lc2 x tg it k tg1 it1 k1 own vs1, X, sc, W0, e, c, tk, h => by
    refine PT.weak (pt_truth (soundE (.lc2 x tg it k tg1 it1 k1 own vs1) c tk h) (plainT_ok (by cases e <;> first | rfl | (simp [chkE] at h) | (rename_i op _ _; cases op <;> first | rfl | (simp [chkE] at h))))) ?_
    rintro σ H Q ⟨W, env, obs, S, g⟩
    have g : GP X.K CA W0 relT W env σ H Q ((denE Φ G (.lc2 x tg it k tg1 it1 k1 own vs1) env obs).bind fun x o => R.opt o (truD x)) := g
    refine LG.bnd earlyT S g fun x o1 v W1 H1 l1 S1 r1 g1 => ?_
    cases ht : truD x with
    | none => rw [ht] at g1; exact g1.elim
    | some k => rw [ht] at g1; exact ⟨k, tru_of S1 r1 ht, g1 _ W1 H1 .refl S1 rfl⟩
  | .sset a, X, sc, W0, e, c, tk, h => by
    refine PT.weak (pt_truth (soundE (.sset a) c tk h) (plainT_ok (by cases e <;> first | rfl | (simp [chkE] at h) | (rename_i op _ _; cases op <;> first | rfl | (simp [chkE] at h))))) ?_
    rintro σ H Q ⟨W, env, obs, S, g⟩
    have g : GP X.K CA W0 relT W env σ H Q ((denE Φ G (.sset a) env obs).bind fun x o => R.opt o (truD x)) := g
    refine LG.bnd earlyT S g fun x o1 v W1 H1 l1 S1 r1 g1 => ?_
    cases ht : truD x with
    | none => rw [ht] at g1; exact g1.elim
    | some k => rw [ht] at g1; exact ⟨k, tru_of S1 r1 ht, g1 _ W1 H1 .refl S1 rfl⟩
theorem soundI : ∀ (m : It) {X : Cx} {sc : Scope} {W0 : WX} {tg e : Expr}, Ctx CA fs bs N G Φ n sc X → Takes X W0 → chkI fs bs N sc m tg e = true → PI X tg e (LG X.K CA W0 (relI X.K CA) (denI Φ G m))
  | .sq a, X, sc, W0, tg, e, c, tk, h => by
    simp only [chkI, Bool.and_eq_true] at h
    refine PI.weak (PI.or (pi_list (soundE a c tk h.1)) (pi_tup (soundE a c tk h.1))) ?_
    rintro σ H R ⟨W, env, obs, S, g⟩
    have g : GP X.K CA W0 (relI X.K CA) W env σ H R ((denE Φ G a env obs).bind fun x o => match x with | .lst ds => .ok ds o | .tup ds => .ok ds o | _ => .bad) := g
    have left : (∀ x o, denE Φ G a env obs = .ok x o → ∃ ds, x = .lst ds) → iList X.K (LE X.K CA W0 (denE Φ G a)) σ H R := fun hh => by
      refine LG.bnd' earlyI S g fun x o1 v W1 H1 he l1 S1 r1 g1 => ?_
      obtain ⟨ds, rfl⟩ := hh x o1 he
      obtain ⟨p, vs, rfl, hF, rs⟩ := Rep.to_lst r1
      exact ⟨p, rfl, ⟨vs, SqL.of (S1.fh _ _ hF)⟩, g1 _ W1 H1 .refl S1 (wlk_list hF rs)⟩
    have right : (∀ x o, denE Φ G a env obs = .ok x o → ∃ ds, x = .tup ds) → iTup X.K (LE X.K CA W0 (denE Φ G a)) σ H R := fun hh => by
      refine LG.bnd' earlyI S g fun x o1 v W1 H1 he l1 S1 r1 g1 => ?_
      obtain ⟨ds, rfl⟩ := hh x o1 he
      obtain ⟨p, vs, rfl, hF, rs⟩ := Rep.to_tup r1
      exact ⟨p, rfl, ⟨vs, SqT.mono hF S1.fh⟩, g1 _ W1 H1 .refl S1 (wlk_tup hF rs)⟩
    cases he : denE Φ G a env obs with
    | bad => exact .inl (left fun x o z => by rw [he] at z; cases z)
    | ex _ _ _ => exact .inl (left fun x o z => by rw [he] at z; cases z)
    | ok d o =>
      cases d with
      | lst ds => exact .inl (left fun x o z => by rw [he] at z; cases z; exact ⟨_, rfl⟩)
      | tup ds => exact .inr (right fun x o z => by rw [he] at z; cases z; exact ⟨_, rfl⟩)
      | _ => rw [he] at g; exact g.elim
  | .r1 a, X, sc, W0, tg, e, c, tk, h => by
    cases e with
    | Call f es' kws pos =>
      cases f with
      | Name x p =>
        cases kws with
        | cons _ _ => simp [chkI] at h
        | nil =>
          unfold chkI at h
          split at h
          · simp only [Bool.and_eq_true, Bool.not_eq_true', beq_iff_eq] at h
            obtain ⟨⟨⟨⟨rfl, h1⟩, h2⟩, h3⟩, h4⟩ := h
            refine PI.weak (pi_range1 (glB_ok c.hsc h1) (c.mo.bi _ (by simpa using h2)) (pa_cons (soundE a c tk h3) pa_nil (star_ok h4)) (star_ok h4)) ?_
            rintro σ H R ⟨W, env, obs, S, g⟩
            refine LG.bnd earlyI S g fun x o1 v W1 H1 l1 S1 r1 g1 => ?_
            cases x with
            | int k =>
              cases r1
              simp only at g1
              split at g1
              · rename_i hs
                have hs := smallI_ok hs
                exact ⟨k, rfl, hs.1, hs.2, g1 _ W1 H1 .refl S1 wlk_range⟩
              · exact g1.elim
            | _ => exact g1.elim
          · cases h
      | _ => simp [chkI] at h
    | _ => simp [chkI] at h
  | .r2 a b, X, sc, W0, tg, e, c, tk, h => by
    cases e with
    | Call f es' kws pos =>
      cases f with
      | Name x p =>
        cases kws with
        | cons _ _ => simp [chkI] at h
        | nil =>
          unfold chkI at h
          split at h
          · simp only [Bool.and_eq_true, Bool.not_eq_true', beq_iff_eq] at h
            obtain ⟨⟨⟨⟨⟨⟨rfl, h1⟩, h2⟩, h3⟩, h4⟩, h5⟩, h6⟩ := h
            refine PI.weak (pi_range2 (glB_ok c.hsc h1) (c.mo.bi _ (by simpa using h2)) (pa_cons (soundE a c tk h3) (pa_cons (soundE b c tk h5) pa_nil (star_ok h6)) (star_ok h4)) (by rw [star_ok h4, star_ok h6]; rfl) (star_ok h6)) ?_
            rintro σ H R ⟨W, env, obs, S, g⟩
            refine LG.bnd earlyI S g fun x o1 v W1 H1 l1 S1 r1 g1 => ?_
            refine LG.bnd earlyI S1 g1 fun y o2 u W2 H2 l2 S2 r2 g2 => ?_
            cases x with
            | int k =>
              cases y with
              | int j =>
                cases r1; cases r2
                simp only at g2
                split at g2
                · rename_i hs
                  rw [Bool.and_eq_true] at hs
                  have hs1 := smallI_ok hs.1
                  have hs2 := smallI_ok hs.2
                  exact ⟨k, j, rfl, ⟨hs1.1, hs1.2, hs2.1, hs2.2⟩, g2 _ W2 H2 .refl S2 wlk_range⟩
                · exact g2.elim
              | _ => exact g2.elim
            | _ => exact g2.elim
          · cases h
      | _ => simp [chkI] at h
    | _ => simp [chkI] at h
  | .r3 a b d, X, sc, W0, tg, e, c, tk, h => by
    cases e with
    | Call f es' kws pos =>
      cases f with
      | Name x p =>
        cases kws with
        | cons _ _ => simp [chkI] at h
        | nil =>
          unfold chkI at h
          split at h
          · simp only [Bool.and_eq_true, Bool.not_eq_true', beq_iff_eq] at h
            obtain ⟨⟨⟨⟨⟨⟨⟨⟨rfl, h1⟩, h2⟩, h3⟩, h4⟩, h5⟩, h6⟩, h7⟩, h8⟩ := h
            refine PI.weak (pi_range3 (glB_ok c.hsc h1) (c.mo.bi _ (by simpa using h2)) (pa_cons (soundE a c tk h3) (pa_cons (soundE b c tk h5) (pa_cons (soundE d c tk h7) pa_nil (star_ok h8)) (star_ok h6)) (star_ok h4)) (star_ok h4) (plain_of (by intro y hy; simp only [List.mem_cons, List.not_mem_nil, or_false] at hy; rcases hy with rfl | rfl; exact h6; exact h8))) ?_
            rintro σ H R ⟨W, env, obs, S, g⟩
            refine LG.bnd earlyI S g fun x o1 v W1 H1 l1 S1 r1 g1 => ?_
            refine LG.bnd earlyI S1 g1 fun y o2 u W2 H2 l2 S2 r2 g2 => ?_
            refine LG.bnd earlyI S2 g2 fun z o3 w W3 H3 l3 S3 r3 g3 => ?_
            cases x with
            | int k =>
              cases y with
              | int j =>
                cases z with
                | int m =>
                  cases r1; cases r2; cases r3
                  simp only at g3
                  split at g3
                  · rename_i hs
                    rw [Bool.and_eq_true] at hs
                    have hs2 := of_decide_eq_true hs.2
                    exact ⟨k, j, m, (Builtin.Range.rangeSize k j m).toNat, rfl, ⟨hs2.1, hs2.2.1, hs.1, by rw [Int.toNat_of_nonneg hs2.2.2]⟩, g3 _ W3 H3 .refl S3 wlk_rangeC⟩
                  · exact g3.elim
                | _ => exact g3.elim
              | _ => exact g3.elim
            | _ => exact g3.elim
          · cases h
      | _ => simp [chkI] at h
    | _ => simp [chkI] at h
  | .en a, X, sc, W0, tg, e, c, tk, h => by
    cases tg with
    | Tuple elts kk tpos =>
      cases e with
      | Call f es' kws pos =>
        cases f with
        | Name x p =>
          cases kws with
          | cons _ _ => simp [chkI] at h
          | nil =>
            unfold chkI at h
            split at h
            · simp only [Bool.and_eq_true, Bool.not_eq_true', beq_iff_eq] at h
              obtain ⟨⟨⟨⟨rfl, h1⟩, h2⟩, h3⟩, h4⟩ := h
              refine PI.weak (pi_enumT (glB_ok c.hsc h1) (c.mo.bi _ (by simpa using h2)) (pa_cons (soundE a c tk h3) pa_nil (star_ok h4)) (star_ok h4)) ?_
              rintro σ H R ⟨W, env, obs, S, g⟩
              refine LG.bnd earlyI S g fun x o1 v W1 H1 l1 S1 r1 g1 => ?_
              cases x with
              | lst ds =>
                obtain ⟨p, vs, rfl, hF, rs⟩ := Rep.to_lst r1
                exact ⟨p, rfl, .inl ⟨vs, SqL.of (S1.fh _ _ hF), g1 _ W1 H1 .refl S1 (wlk_enum hF rs)⟩⟩
              | tup ds =>
                obtain ⟨p, vs, rfl, hF, rs⟩ := Rep.to_tup r1
                exact ⟨p, rfl, .inr ⟨vs, SqT.mono hF S1.fh, g1 _ W1 H1 .refl S1 (wlk_enumT hF rs)⟩⟩
              | _ => exact g1.elim
            · cases h
        | _ => simp [chkI] at h
      | _ => simp [chkI] at h
    | _ => simp [chkI] at h
end
end
end Mp

set_option Elab.async false
set_option linter.all false
set_option maxRecDepth 100000
set_option maxHeartbeats 4000000
/-! Statements. -/
namespace Mp
open PySem PySem.Spec PyProof.Rows L2

/-! ### which statements -/
def lclB (sc : Scope) (x : Str) : Bool := match sc.names.lookup x with | some .local => true | _ => false
/-- the stores of a parallel assignment that the model swaps -/
def swP (ts vs : List Expr) (sc : Scope) : Option (Option (List Str)) :=
  if !(ts.length == 2 || ts.length == 3) || vs.length != ts.length then some none else
  if vs.any isStar then some none else
  let line := (ts.head?.map (·.pos.line)).getD 0
  let names := ts.filterMap fun
    | .Name id pos => if sc.names.lookup id == some .local && pos.line == line then some id else none
    | _ => none
  if names.length != ts.length || names.eraseDups.length != names.length then some none else
  if vs.all (foldedForSure 8) then some none else
  if vs.all (constantsAlone 8) then none else some (some names)
theorem swP_ok {ts vs : List Expr} {env : PySem.Env} {k k2 : Nat} {p p2 : Pos} {r : Option (List Str)} (hk : env.scope.kind = .function) (h : swP ts vs env.scope = some r) : swappedStores [.Tuple ts k p] (.Tuple vs k2 p2) env = pure r := by
  have hb : env.blockKind = .function := by
    unfold Env.blockKind
    rw [hk]; rfl
  unfold swP at h
  unfold swappedStores
  show (if (!(ts.length == 2 || ts.length == 3) || vs.length != ts.length || env.blockKind != .function) = true then _ else _) = _
  rw [hb]
  simp only [bne_self_eq_false, Bool.or_false]
  split at h
  · rename_i c
    cases h
    rw [if_pos c]
  · rename_i c
    rw [if_neg c]
    split at h
    · rename_i c2
      cases h
      exact if_pos c2
    · rename_i c2
      refine Eq.trans (if_neg c2) ?_
      simp only at h
      split at h
      · rename_i c3
        cases h
        exact if_pos c3
      · rename_i c3
        refine Eq.trans (if_neg c3) ?_
        split at h
        · rename_i c4
          cases h
          exact if_pos c4
        · rename_i c4
          refine Eq.trans (if_neg c4) ?_
          split at h
          · cases h
          · rename_i c5
            cases h
            exact if_neg c5
theorem swN_ok {tg e : Expr} {env : PySem.Env} (h : (match e with | .Tuple _ _ _ => false | _ => true) = true) : swappedStores [tg] e env = pure none := by
  cases e <;> first | (cases tg <;> rfl) | (simp at h)
/-- whether a comprehension is stored from within -/
def swB (sc : Scope) (x : Str) (px : Pos) : Expr → Bool
  | .ListComp _ _ s pos => lclB sc x && px.line == pos.line && !(s.names.any fun (n, k) => n == x && (k == .local || k == .cell))
  | .SetComp _ _ _ _ => true | .DictComp _ _ _ _ _ => true | _ => false
theorem sw_false {e : Expr} {x : Str} {px : Pos} {l : Nat} {env : PySem.Env} (hk : env.scope.kind = .function) (h : swB env.scope x px e = false) : swapsWith e (some (.Name x px)) l env = pure false := by
  cases e with
  | ListComp el gs s pos =>
    show (pure (env.blockKind == .function && env.kindOf x == some .local && px.line == pos.line && !(s.names.any fun (n, k) => n == x && (k == .local || k == .cell))) : Sem Bool) = pure false
    congr 1
    have hb : env.blockKind = .function := by unfold Env.blockKind; rw [hk]; rfl
    rw [hb]
    unfold swB lclB at h
    unfold Env.kindOf
    cases q : env.scope.names.lookup x with
    | none => rfl
    | some kd =>
      rw [q] at h
      cases kd <;> first | rfl | (simpa using h)
  | SetComp _ _ _ _ => simp [swB] at h
  | DictComp _ _ _ _ _ => simp [swB] at h
  | _ => rfl
theorem sw_none {e : Expr} {l : Nat} {env : PySem.Env} (h : isCompr e = false) : swapsWith e none l env = pure false := by
  cases e <;> first | rfl | (simp [isCompr] at h)
theorem sw_sub {e a b : Expr} {p : Pos} {l : Nat} {env : PySem.Env} : swapsWithSole [.Subscript a b p] e l env = pure false := by
  cases e <;> rfl
theorem sw_tup {e : Expr} {ts : List Expr} {k : Nat} {p : Pos} {l : Nat} {env : PySem.Env} : swapsWithSole [.Tuple ts k p] e l env = pure false := by
  cases e <;> rfl
def idents : List Expr → List Str
  | [] => []
  | .Name x _ :: r => x :: idents r
  | _ :: r => idents r
section
variable (fs bs : List Str) (N : List Str)
def chkNms (sc : Scope) : List Nat → List Expr → Bool
  | [], [] => true
  | i :: is, .Name x _ :: es => decide (N[i]? = some x) && locB sc x && chkNms sc is es
  | _, _ => false
def chkF (sc : Scope) : Fr → Expr → Bool
  | .dsp es, .List es' _ => chkEs fs bs N sc es es'
  | .lc x tg it c own, e => chkE fs bs N sc (.lc x tg it c own) e
  | .lo a, .Call (.Name x _) es' [] _ => match es' with
    | [a'] => x == ("list" : Str) && glB sc x && bs.contains x && chkE fs bs N sc a a' && !isStar a'
    | _ => false
  | _, _ => false
def chkPs (sc : Scope) : List (E ⊕ Fr) → List Expr → Bool
  | [], [] => true
  | .inl e :: r, e' :: r' => chkE fs bs N sc e e' && !isStar e' && chkPs sc r r'
  | .inr f :: r, e' :: r' => chkF fs bs N sc f e' && !isStar e' && chkPs sc r r'
  | _, _ => false
def chkTgS (sc : Scope) (tg : Tg) (e : Expr) : Bool := chkTg sc N tg.sl tg e
def chkPar (sc : Scope) (ts : List Nat) (es : List (E ⊕ Fr)) (ts' es' : List Expr) : Bool :=
  chkNms N sc ts ts' && chkPs fs bs N sc es es' && decide (ts.length = es.length) && decide (ts.length ≤ 100) && match swP ts' es' sc with
    | some none => true
    | some (some ns) => decide (ns = idents ts') && (idents ts').all (lclB sc) && decide (ts.Nodup) && (ts.length == 2 || ts.length == 3)
    | none => false
def litB : D → Const → Bool
  | .non, .none => true
  | .bl b, .bool c => b == c
  | .int b, .int c => b == c
  | .str b, .str c => b == c
  | _, _ => false
def litV : D → V
  | .bl b => .bl b | .int i => .int i | .str x => .str x | _ => .non
theorem lit_ok {X : Cx} {d : D} {k : Const} {j : Nat} {pos : Pos} (h : litB d k = true) : PE X (.Constant k j pos) (tC (litV d)) ∧ ∀ (K : PySem.W.Frag) (W : Wd), W.rep K (litV d) d := by
  cases d with
  | non => cases k with
    | none => exact ⟨pe_non, fun _ _ => .non⟩
    | _ => cases h
  | bl b => cases k with
    | bool c =>
      obtain rfl : b = c := by simpa [litB] using h
      exact ⟨pe_bl, fun _ _ => .bl _⟩
    | _ => cases h
  | int b => cases k with
    | int c =>
      obtain rfl : b = c := by simpa [litB] using h
      exact ⟨pe_int, fun _ _ => .int _⟩
    | _ => cases h
  | str b => cases k with
    | str c =>
      obtain rfl : b = c := by simpa [litB] using h
      exact ⟨pe_str, fun _ _ => .str _⟩
    | _ => cases h
  | _ => cases h
/-- an except suite -/
def chkHd (N : List Str) (sc : Scope) : Hd → Option Str → List Stmt → Bool
  | .fld i j, some n, [.Assign [.Name y py] (.Attribute (.Name e p1) f p2) _] => decide (N[i]? = some n) && lclB sc n && e == n && !dbg n && !(n == ("__classdict__" : Str)) && f == ("place" : Str) && decide (N[j]? = some y) && locB sc y && !swB sc y py (.Attribute (.Name e p1) f p2)
  | .set j d, none, [.Assign [.Name y py] (.Constant k q p2) _] => decide (N[j]? = some y) && locB sc y && !swB sc y py (.Constant k q p2) && litB d k
  | .ret d, none, [.Return (some (.Constant k _ _)) _] => litB d k
  | _, _, _ => false
mutual
def chkS (sc : Scope) : S → Stmt → Bool
  | .rse c e, .Raise (some (.Call (.Name x _) es' [] _)) none _ => match es' with
    | [e'] => c == x && glB sc x && !dbg x && bs.contains (clsNm c) && chkE fs bs N sc e e' && !isStar e'
    | _ => false
  | .trye b c h, .Try b' hs' [] [] _ => match hs' with
    | [.ExceptHandler (some (.Name x _)) nm su _] => c == x && glB sc x && !dbg x && bs.contains (clsNm c) && chkSs sc b b' && chkHd N sc h nm su
    | _ => false
  | .set i e, .Assign tgs e' _ => match tgs with
    | [.Name x px] => decide (N[i]? = some x) && locB sc x && chkE fs bs N sc e e' && (!swB sc x px e' || (match e, e' with | .lc _ _ _ _ _, .ListComp _ _ _ _ => true | _, _ => false))
    | _ => false
  | .new i f, .Assign tgs e' _ => match tgs with
    | [.Name x px] => decide (N[i]? = some x) && locB sc x && chkF fs bs N sc f e' && (!swB sc x px e' || (match f, e' with | .lc _ _ _ _ _, .ListComp _ _ _ _ => true | _, _ => false))
    | _ => false
  | .tup ts e, .Assign tgs e' _ => match tgs with
    | [.Tuple ts' k p] => chkTgS N sc (.tp ts) (.Tuple ts' k p) && chkE fs bs N sc e e' && (match e' with | .Tuple _ _ _ => false | _ => true)
    | _ => false
  | .tgt tg e, .Assign tgs e' _ => match tgs with
    | [.Tuple ts' k p] => chkTgS N sc tg (.Tuple ts' k p) && chkE fs bs N sc e e' && (match e' with | .Tuple es' _ _ => (match swP ts' es' sc with | some none => true | _ => false) | _ => true)
    | _ => false
  | .par ts es, .Assign tgs e' _ => match tgs, e' with
    | [.Tuple ts' _ _], .Tuple es' _ _ => chkPar fs bs N sc ts es ts' es'
    | _, _ => false
  | .aug i op e, .AugAssign (.Name x _) op' e' _ => decide (N[i]? = some x) && locB sc x && decide (op = op') && chkE fs bs N sc e e'
  | .app i e, .Expr (.Call (.Attribute (.Name x _) m apos) es' [] cpos) _ => match es' with
    | [e'] => decide (N[i]? = some x) && visB sc x && !dbg x && !(x == ("__classdict__" : Str)) && m == ("append" : Str) && apos.endLine == cpos.line && chkE fs bs N sc e e' && !isStar e'
    | _ => false
  | .ext i e, .Expr (.Call (.Attribute (.Name x _) m apos) es' [] cpos) _ => match es' with
    | [e'] => decide (N[i]? = some x) && visB sc x && !dbg x && !(x == ("__classdict__" : Str)) && m == ("extend" : Str) && apos.endLine == cpos.line && chkE fs bs N sc e e' && !isStar e'
    | _ => false
  | .put i k e, .Assign tgs e' _ => match tgs with
    | [.Subscript (.Name x _) k' _] => decide (N[i]? = some x) && visB sc x && !dbg x && !(x == ("__classdict__" : Str)) && chkE fs bs N sc k k' && chkE fs bs N sc e e' && !isSlice k' && (match e' with | .Tuple _ _ _ => false | _ => true)
    | _ => false
  | .oput a k e, .Assign tgs e' _ => match tgs with
    | [.Subscript a' k' _] => chkE fs bs N sc a a' && chkE fs bs N sc k k' && chkE fs bs N sc e e' && !isSlice k' && (match e' with | .Tuple _ _ _ => false | _ => true)
    | _ => false
  | .ret e, .Return (some e') _ => chkE fs bs N sc e e'
  | .ret0, .Return none _ => true
  | .mv i, .Return (some (.Name x _)) _ => decide (N[i]? = some x) && visB sc x && !dbg x && !(x == ("__classdict__" : Str))
  | .ife c a b, .If c' a' b' _ => chkE fs bs N sc c c' && chkSs sc a a' && chkSs sc b b'
  | .whl c b, .While c' b' [] _ => chkE fs bs N sc c c' && chkSs sc b b'
  | .for_ tg it b, .For tg' it' b' [] _ => chkI fs bs N sc it tg' it' && chkTgS N sc tg tg' && chkSs sc b b'
  | .exp e, .Expr e' _ => chkE fs bs N sc e e' && !isCompr e'
  | .pass, .Pass _ => true
  | .brk, .Break _ => true
  | .cnt, .Continue _ => true
  | _, _ => false
  termination_by structural s => s
def chkSs (sc : Scope) : Ss → List Stmt → Bool
  | .nil, [] => true
  | .cons s r, s' :: r' => chkS sc s s' && chkSs sc r r'
  | .frz _ r, r' => chkSs sc r r'
  | _, _ => false
  termination_by structural s => s
end
end

/-! ### parts of a proof -/
section
variable {K : PySem.W.Frag} {CA : Str → Option Addr} {W0 : WX} {W W1 : Wd} {H H1 : Hp} {obs : Obs} {env : Env} {σ : L2.St} {α β : Type} {rel : Rl α β}
theorem LPost.mono {D : Ends} (l : W.leS W1) : ∀ {r : RS}, LPost K CA W0 W D r → LPost K CA W0 W1 D r
  | .nx e o, h => fun σ' W' H' l' S => h σ' W' H' (l.trans l') S
  | .rt d o, h => fun v W' H' l' S r => h v W' H' (l.trans l') S r
  | .bk e o, h => fun σ' W' H' l' S => h σ' W' H' (l.trans l') S
  | .ct e o, h => fun σ' W' H' l' S => h σ' W' H' (l.trans l') S
  | .ex c a e o, h => fun cls dd σ' W' H' l' S x => h cls dd σ' W' H' (l.trans l') S x
  | .bad, h => h
/-- an expression, then a statement's rest -/
theorem LS.bnd {D : Ends} {T : β → Hp → Prop} {fa : Env → Obs → R α} {k : α → Obs → RS} (S : SRel K CA W σ H env obs) (h : LPost K CA W0 W D ((fa env obs).st env k))
    (kk : ∀ a o1 v W1 H1, W.leE W1 H H1 → SRel K CA W1 σ H1 env o1 → rel W W1 H1 v a → LPost K CA W0 W1 D (k a o1) → T v H1) : LG K CA W0 rel fa σ H T := by
  refine ⟨W, env, obs, S, ?_⟩
  cases e : fa env obs with
  | ok a o => exact fun v W' H' l S' r => kk a o v W' H' l S' r (LPost.mono l.s (by rw [e] at h; exact h))
  | ex c a o => rw [e] at h; exact fun cls dd W' H' l S' x => h cls dd σ W' H' l.s S' x
  | bad => rw [e] at h; exact h
theorem SRel.put_own {p : Addr} {vs : List V} {ds : List D} {i : Nat} (S : SRel K CA W σ H env obs) (ra : W.ρ p = some .acc) (hp : H p = some (.lst vs)) (rs : W.reps K vs ds) :
    ∃ W2, W.leS W2 ∧ SRel K CA W2 (σ.set i (some (.ref p))) H (env.set i (.ol ds)) obs ∧ (∀ q r, q ≠ p → W.ρ q = some r → W2.ρ q = some r) := by
  have ls := leS_turn (r := .own i) ra rfl
  have S2 := S.turn (r := .own i) ra rfl (fun i s z => nomatch z) (fun u z => nomatch z) (fun u z => nomatch z)
  exact ⟨W.put p (.own i), ls, S2.set ⟨p, vs, rfl, Wd.put_same, hp, ls.d.reps rs⟩, fun q r hq e => by rw [Wd.put_ne hq]; exact e⟩
/-- parts stored at once -/
def PRel (K : PySem.W.Frag) (W' : Wd) (H' : Hp) : List V → List Sl → List Addr → Prop
  | [], [], [] => True
  | v :: vs, .v d :: ss, ps => W'.rep K v d ∧ PRel K W' H' vs ss ps
  | v :: vs, .ol ds :: ss, p :: ps => v = .ref p ∧ (∃ us, H' p = some (.lst us) ∧ W'.reps K us ds) ∧ PRel K W' H' vs ss ps
  | _, _, _ => False
abbrev relP (K : PySem.W.Frag) : Rl (List Sl) (List V) := fun W W' H' vs ss => ∃ ps : List Addr, ps.Nodup ∧ (∀ p ∈ ps, W.ρ p = none ∧ W'.ρ p = some .acc) ∧ PRel K W' H' vs ss ps
theorem earlyP : Rl.Early (relP K) := fun W W1 _ _ _ _ _ _ l ⟨ps, n, h, q⟩ => ⟨ps, n, fun p hp => ⟨(by
  cases z : W.ρ p with
  | none => rfl
  | some r => have := (h p hp).1; rw [l.r p r z] at this; cases this), (h p hp).2⟩, q⟩
theorem PRel.mono {W' W2 : Wd} {H' H2 : Hp} (dl : W'.dle W2) : ∀ {vs : List V} {ss : List Sl} {ps : List Addr}, (∀ p ∈ ps, H2 p = H' p) → PRel K W' H' vs ss ps → PRel K W2 H2 vs ss ps
  | [], [], [], _, _ => trivial
  | v :: vs, .v d :: ss, ps, hh, h => ⟨dl.rep h.1, PRel.mono dl hh h.2⟩
  | v :: vs, .ol ds :: ss, p :: ps, hh, h => ⟨h.1, (by obtain ⟨us, a, b⟩ := h.2.1; exact ⟨us, (hh p List.mem_cons_self).trans a, dl.reps b⟩), PRel.mono dl (fun q hq => hh q (List.mem_cons_of_mem _ hq)) h.2.2⟩
  | [], [], _ :: _, _, h => h.elim
  | [], _ :: _, _, _, h => h.elim
  | _ :: _, [], _, _, h => h.elim
  | _ :: _, .un :: _, _, _, h => h.elim
  | _ :: _, .od _ :: _, _, _, h => h.elim
  | _ :: _, .ol _ :: _, [], _, h => h.elim
theorem PRel.length : ∀ {vs : List V} {ss : List Sl} {ps : List Addr}, PRel K W H vs ss ps → vs.length = ss.length
  | [], [], [], _ => rfl
  | v :: vs, .v d :: ss, ps, h => congrArg (· + 1) (PRel.length h.2)
  | v :: vs, .ol ds :: ss, p :: ps, h => congrArg (· + 1) (PRel.length h.2.2)
  | [], [], _ :: _, h => h.elim
  | [], _ :: _, _, h => h.elim
  | _ :: _, [], _, h => h.elim
  | _ :: _, .un :: _, _, h => h.elim
  | _ :: _, .od _ :: _, _, h => h.elim
  | _ :: _, .ol _ :: _, [], h => h.elim
theorem SRel.setSl : ∀ {ts : List Nat} {vs : List V} {ss : List Sl} {ps : List Addr} {W : Wd} {σ : L2.St} {env env' : Env}, SRel K CA W σ H env obs → PRel K W H vs ss ps → ps.Nodup → (∀ p ∈ ps, W.ρ p = some .acc) → Mp.setSl ts ss env = some env' →
    ∃ W2, W.leS W2 ∧ SRel K CA W2 (setV ts vs σ) H env' obs
  | [], [], [], [], W, σ, env, env', S, _, _, _, e => by cases e; exact ⟨W, .refl, S⟩
  | i :: is, v :: vs, .v d :: ss, ps, W, σ, env, env', S, h, n, a, e => by
    show ∃ W2, W.leS W2 ∧ SRel K CA W2 (setV is vs (σ.set i (some v))) H env' obs
    exact SRel.setSl (S.set (i := i) (s := .v d) ⟨v, rfl, h.1⟩) h.2 n a e
  | i :: is, v :: vs, .ol ds :: ss, p :: ps, W, σ, env, env', S, h, n, a, e => by
    show ∃ W2, W.leS W2 ∧ SRel K CA W2 (setV is vs (σ.set i (some v))) H env' obs
    obtain ⟨rfl, ⟨us, hp, rs⟩, h3⟩ := h
    obtain ⟨n1, n2⟩ := List.nodup_cons.mp n
    obtain ⟨W1, l1, S1, k1⟩ := S.put_own (i := i) (a p List.mem_cons_self) hp rs
    obtain ⟨W2, l2, S2⟩ := SRel.setSl S1 (h3.mono l1.d fun _ _ => rfl) n2 (fun q hq => k1 q _ (fun z => n1 (z ▸ hq)) (a q (List.mem_cons_of_mem _ hq))) e
    exact ⟨W2, l1.trans l2, S2⟩
  | [], [], _ :: _, _, _, _, _, _, _, h, _, _, _ => h.elim
  | [], [], [], _ :: _, _, _, _, _, _, h, _, _, _ => h.elim
  | [], _ :: _, [], _, _, _, _, _, _, h, _, _, _ => h.elim
  | [], _ :: _, _ :: _, _, _, _, _, _, _, _, _, _, e => by cases e
  | _ :: _, [], [], _, _, _, _, _, _, _, _, _, e => by cases e
  | _ :: _, _ :: _, [], _, _, _, _, _, _, h, _, _, _ => h.elim
  | _ :: _, [], _ :: _, _, _, _, _, _, _, h, _, _, _ => h.elim
  | _ :: _, _ :: _, .un :: _, _, _, _, _, _, _, h, _, _, _ => h.elim
  | _ :: _, _ :: _, .od _ :: _, _, _, _, _, _, _, h, _, _, _ => h.elim
  | _ :: _, _ :: _, .ol _ :: _, [], _, _, _, _, _, h, _, _, _ => h.elim
/-- a list of one's own is frozen -/
theorem SRel.freeze {i : Nat} {ds : List D} (S : SRel K CA W σ H env obs) (he : env[i]? = some (.ol ds)) : ∃ W2, W.leS W2 ∧ SRel K CA W2 σ H (env.set i (.v (.lst ds))) obs := by
  obtain ⟨p, vs, hσ, hr, hp, rs⟩ := S.getL he
  have hi : i < env.length := (List.getElem?_eq_some_iff.mp he).1
  have S0 : SRel K CA W σ H (env.set i .un) obs := S.weak (by simp [S.len]) fun j s e => by
    by_cases hj : i = j
    · subst hj; rw [List.getElem?_set_self hi] at e; exact .inl (Option.some.inj e).symm
    · rw [List.getElem?_set_ne hj] at e; exact .inr ⟨e, rfl⟩
  have S1 : SRel K CA (W.put p (.fro (.lst vs))) σ H (env.set i .un) obs := by
    refine S0.turn hr rfl (fun j s e z => ?_) (fun u e => by injection e with e; rw [← e]; exact hp) (fun u e => nomatch e)
    have hj : i = j := by injection e
    subst hj
    rw [List.getElem?_set_self hi] at z
    exact .inr (Option.some.inj z).symm
  have ls := leS_turn (r := .fro (.lst vs)) hr rfl
  refine ⟨_, ls, ?_⟩
  have := S1.set (i := i) (v := .ref p) (s := .v (.lst ds)) ⟨_, rfl, .lst (Wd.F_of.mpr Wd.put_same) (ls.d.reps rs)⟩
  rw [List.set_set] at this
  have e : σ.set i (some (.ref p)) = σ := by
    apply List.ext_getElem?
    intro j
    by_cases hj : i = j
    · subst hj; rw [List.getElem?_set_self (by rw [S.len]; exact hi), hσ]
    · rw [List.getElem?_set_ne hj]
  rw [e] at this; exact this
end
theorem aug_ok {X : Cx} {CA : Str → Option Addr} : ∀ op : Operator, ∃ r, OpR X (inplaceOp op) r ∧ Op2 X.K CA r (augD op) := by
  intro op
  cases op with
  | Add =>
    refine ⟨_, iop_add, fun W σ H env obs x y a b d Q S rx ry e q => ?_⟩
    cases a with
    | int a => cases b with
      | int b =>
        simp only [augD, Option.some.injEq] at e
        subst e; cases rx; cases ry
        exact ⟨_, _, rfl, rfl, q _ W H .refl S (.int _)⟩
      | _ => simp [augD] at e
    | _ => simp [augD] at e
  | Sub =>
    refine ⟨_, iop_sub, fun W σ H env obs x y a b d Q S rx ry e q => ?_⟩
    cases a with
    | int a => cases b with
      | int b =>
        simp only [augD, Option.some.injEq] at e
        subst e; cases rx; cases ry
        exact ⟨_, _, rfl, rfl, q _ W H .refl S (.int _)⟩
      | _ => simp [augD] at e
    | _ => simp [augD] at e
  | Mult =>
    refine ⟨_, iop_mul, fun W σ H env obs x y a b d Q S rx ry e q => ?_⟩
    cases a with
    | int a => cases b with
      | int b =>
        simp only [augD] at e
        split at e
        · rename_i h; cases e; cases rx; cases ry
          refine ⟨_, _, rfl, rfl, ?_, q _ W H .refl S (.int _)⟩
          unfold mulOk at h
          rw [Bool.or_eq_true] at h
          rcases h with h | h
          · exact .inl (natAbs_lt (of_decide_eq_true h))
          · exact .inr (natAbs_lt (of_decide_eq_true h))
        · cases e
      | _ => simp [augD] at e
    | _ => simp [augD] at e
  | FloorDiv =>
    refine ⟨_, iop_fdiv, fun W σ H env obs x y a b d Q S rx ry e q => ?_⟩
    cases a with
    | int a => cases b with
      | int b =>
        simp only [augD] at e
        split at e
        · rename_i h; cases e; cases rx; cases ry
          exact ⟨_, _, rfl, rfl, (by have := of_decide_eq_true h; exact this), q _ W H .refl S (.int _)⟩
        · cases e
      | _ => simp [augD] at e
    | _ => simp [augD] at e
  | Mod =>
    refine ⟨_, iop_mod, fun W σ H env obs x y a b d Q S rx ry e q => ?_⟩
    cases a with
    | int a => cases b with
      | int b =>
        simp only [augD] at e
        split at e
        · rename_i h; cases e; cases rx; cases ry
          exact ⟨_, _, rfl, rfl, (by have := of_decide_eq_true h; exact this), q _ W H .refl S (.int _)⟩
        · cases e
      | _ => simp [augD] at e
    | _ => simp [augD] at e
  | _ => exact ⟨fun _ _ _ _ => False, fun _ _ _ _ _ _ _ _ _ _ _ _ h => h.elim, fun _ _ _ _ _ _ _ _ _ _ _ _ _ _ e => by simp [augD] at e⟩
end Mp

set_option Elab.async false
set_option linter.all false
set_option maxRecDepth 100000
set_option maxHeartbeats 4000000
/-! THE THEOREM for statements. -/
namespace Mp
open PySem PySem.Spec PyProof.Rows L2

/-- a run, then another one, told from the first world -/
theorem LG.bnd1 {K : PySem.W.Frag} {CA : Str → Option Addr} {W0 : WX} {W W1 : Wd} {H H1 : Hp} {obs : Obs} {env : Env} {σ : L2.St} {α β γ δ : Type} {rel : Rl α β} {rel2 : Rl γ δ} {Q : δ → Hp → Prop} {T : β → Hp → Prop} {fa : Env → Obs → R α} {k : α → Obs → R γ} (l : W.leE W1 H H1) (S : SRel K CA W1 σ H1 env obs) (h : GP K CA W0 rel2 W env σ H Q ((fa env obs).bind k))
    (kk : ∀ a o1 v W2 H2, W1.leE W2 H1 H2 → SRel K CA W2 σ H2 env o1 → rel W1 W2 H2 v a → GP K CA W0 rel2 W env σ H Q (k a o1) → T v H2) : LG K CA W0 rel fa σ H1 T := by
  refine ⟨W1, env, obs, S, ?_⟩
  cases e : fa env obs with
  | ok a o => exact fun v W' H' l' S' r => kk a o v W' H' l' S' r (by rw [e] at h; exact h)
  | ex c a o => rw [e] at h; exact fun cls dd W' H' l' S' x => h cls dd W' H' (l.trans l') S' x
  | bad => rw [e] at h; exact h
section
variable {CA : Str → Option Addr} {fs bs N : List Str} {G : Str → Option D} {Φ : Str → List D → Obs → R D} {n : Nat}
structure CtxS (CA : Str → Option Addr) (fs bs N : List Str) (G : Str → Option D) (Φ : Str → List D → Obs → R D) (n : Nat) (sc : Scope) (X : Cx) : Prop where
  c : Ctx CA fs bs N G Φ n sc X
  own : PassesOwn (model X.prog X.w) X.A X.env X.xe
  fn : ∀ x, X.fn x = true
  kind : X.env.scope.kind = .function
  stk : X.stack = X.env :: X.outer
  fr : X.env.frame = some X.env.locals
/-- a comprehension's parts -/
theorem lc_parts {X : Cx} {sc : Scope} {W0 : WX} {x : E} {tg : Tg} {it : It} {k : Eo} {own : List (Str × Nat)} {e : Expr} (c : Ctx CA fs bs N G Φ n sc X) (tk : Takes X W0) (h : chkE fs bs N sc (.lc x tg it k own) e = true) :
    ∃ x' tg' it' ifs' scope pos, e = .ListComp x' [⟨tg', it', ifs', 0⟩] scope pos ∧ PI X tg' it' (LG X.K CA W0 (relI X.K CA) (denI Φ G it)) ∧ BlkOk X.N X.env.scope scope own ∧
      (∀ (s : Shared) (H : Hp) (C : Addr) (cl : List (Str × Addr)) (fp : List Addr), PG (X.blk s H scope (compEnvC scope cl C X.env) fp) tg' (gTg X.K tg)) ∧
      (∀ (s : Shared) (H : Hp) (C : Addr) (cl : List (Str × Addr)) (fp : List Addr), PTs (X.blk s H scope (compEnvC scope cl C X.env) fp) ifs' (LT X.K CA (fun _ _ _ _ => False) (denC Φ G k))) ∧
      (∀ (s : Shared) (H : Hp) (C : Addr) (cl : List (Str × Addr)) (fp : List Addr), PE (X.blk s H scope (compEnvC scope cl C X.env) fp) x' (LE X.K CA (fun _ _ _ _ => False) (denE Φ G x))) ∧
      (∀ z, foldedSetIterable it' X.env z = pure z) ∧ (∀ i ∈ tg.sl, i ∈ own.map (·.2)) := by
  cases e with
  | ListComp x' gs scope pos =>
    unfold chkE at h
    split at h
    · simp only [Bool.and_eq_true] at h
      obtain ⟨⟨⟨⟨h1, h2⟩, h3⟩, h4⟩, h5⟩ := h
      have cb : ∀ (s : Shared) (H : Hp) (C : Addr) (cl : List (Str × Addr)) (fp : List Addr), Ctx CA fs bs N G Φ n (relS scope sc) (X.blk s H scope (compEnvC scope cl C X.env) fp) := fun s H C cl fp =>
        ⟨c.hN, c.nd, by rw [← c.hsc]; rfl, c.calm, c.room, c.mo⟩
      refine ⟨_, _, _, _, _, _, rfl, soundI it c tk h2, by rw [c.hN, c.hsc]; exact blkOk_by h1, fun s H C cl fp => ?_, fun s H C cl fp => soundC k (cb s H C cl fp) takes0 h4, fun s H C cl fp => soundE x (cb s H C cl fp) takes0 h5, folded_ok (chkI_set h2), chkTg_own h3⟩
      exact (pg_of (X := X.blk s H scope (compEnvC scope cl C X.env) fp) c.hN c.nd c.calm (fun y hy => by
        unfold locB at hy
        split at hy
        · rename_i e
          have : (relS scope X.env.scope).names.lookup y = some .local := lookup_relS_keep (by decide) e
          exact ⟨.inl this, .inr this⟩
        · rename_i e
          have : (relS scope X.env.scope).names.lookup y = some .cell := lookup_relS_keep (by decide) e
          exact ⟨.inr this, .inl (by show (scope.names.lookup y == some .cell) = true; rw [e]; rfl)⟩
        · cases hy) h3).1
    · cases h
  | _ => simp [chkE] at h
theorem soundF {X : Cx} {sc : Scope} {W0 : WX} {f : Fr} {e : Expr} (c : Ctx CA fs bs N G Φ n sc X) (tk : Takes X W0) (h : chkF fs bs N sc f e = true) : PE X e (LF X.K CA W0 (denF Φ G f)) := by
  cases f with
  | dsp es =>
    cases e with
    | List es' pos =>
      refine PE.weak (pe_lst (soundEs es c tk (by simpa [chkF] using h))) ?_
      rintro σ H Q ⟨W, env, obs, S, g⟩
      refine LG.bnd earlyF S g fun ds o1 vs W1 H1 l1 S1 r1 g1 => ?_
      split at g1
      · rename_i hl
        have r1 : W1.reps X.K vs ds := r1
        exact ⟨by rw [r1.length]; exact hl, GP.new S1 g1 r1⟩
      · exact g1.elim
    | _ => simp [chkF] at h
  | lc x tg it k own =>
    obtain ⟨x', tg', it', ifs', scope, pos, rfl, p1, p2, p3, p4, p5, p6, p7⟩ := lc_parts c tk (by simpa [chkF] using h)
    exact PE.weak (pe_lc c.calm (by rw [c.hN]; exact c.nd) p1 p2 p3 p4 p5 p6) fun σ H Q g => lc_of p7 g
  | lo a =>
    cases e with
    | Call g es' kws pos =>
      cases g with
      | Name x p =>
        cases kws with
        | cons _ _ => simp [chkF] at h
        | nil =>
          cases es' with
          | nil => simp [chkF] at h
          | cons a' er =>
            cases er with
            | cons _ _ => simp [chkF] at h
            | nil =>
              simp only [chkF, Bool.and_eq_true, Bool.not_eq_true', beq_iff_eq] at h
              obtain ⟨⟨⟨⟨rfl, h1⟩, h2⟩, h3⟩, h4⟩ := h
              obtain ⟨b1, b2, b3⟩ := boot_T "list" (by decide)
              refine PE.weak (pe_callTy call_list_of (glB_ok c.hsc h1) (c.mo.bi _ (by simpa using h2)) b1 (pa_cons (soundE a c tk h3) pa_nil (star_ok h4)) b2 b3 (star_ok h4) rfl) ?_
              rintro σ H Q ⟨W, env, obs, S, g⟩
              refine LG.bnd earlyF S g fun x o1 v W1 H1 l1 S1 r1 g1 => ?_
              cases x with
              | lst ds =>
                obtain ⟨q, vs, rfl, hp, rs⟩ := S1.lst r1
                exact ⟨q, vs, rfl, .inl (SqL.of hp), GP.new S1 g1 rs⟩
              | tup ds =>
                obtain ⟨q, vs, rfl, hp, rs⟩ := S1.tup r1
                exact ⟨q, vs, rfl, .inr hp, GP.new S1 g1 rs⟩
              | _ => exact g1.elim
      | _ => simp [chkF] at h
    | _ => simp [chkF] at h
theorem soundPs {X : Cx} {sc : Scope} {W0 : WX} (c : Ctx CA fs bs N G Φ n sc X) (tk : Takes X W0) : ∀ {es : List (E ⊕ Fr)} {es' : List Expr}, chkPs fs bs N sc es es' = true → PA X es' (LG X.K CA W0 (relP X.K) (denPs Φ G es))
  | [], [], _ => PA.weak pa_nil fun σ H Q ⟨W, env, obs, S, g⟩ => g [] W H .refl S ⟨[], List.nodup_nil, (fun _ h => by cases h), trivial⟩
  | [], _ :: _, h => by simp [chkPs] at h
  | .inl _ :: _, [], h => by simp [chkPs] at h
  | .inr _ :: _, [], h => by simp [chkPs] at h
  | .inl a :: r, a' :: r', h => by
    simp only [chkPs, Bool.and_eq_true, Bool.not_eq_true'] at h
    refine PA.weak (pa_cons (soundE a c tk h.1.1) (soundPs c tk h.2) (star_ok h.1.2)) ?_
    rintro σ H Q ⟨W, env, obs, S, g⟩
    refine LG.bnd1 .refl S g fun x o1 v W1 H1 l1 S1 r1 g1 => ?_
    refine LG.bnd1 l1 S1 g1 fun xs o2 vs W2 H2 l2 S2 r2 g2 => ?_
    obtain ⟨ps, nd, hp, q⟩ := r2
    refine g2 _ W2 H2 (l1.trans l2) S2 ⟨ps, nd, fun p hq => ⟨?_, (hp p hq).2⟩, l2.d.rep r1, q⟩
    cases z : W.ρ p with
    | none => rfl
    | some r => have := (hp p hq).1; rw [l1.r p r z] at this; cases this
  | .inr f :: r, a' :: r', h => by
    simp only [chkPs, Bool.and_eq_true, Bool.not_eq_true'] at h
    refine PA.weak (pa_cons (soundF c tk h.1.1) (soundPs c tk h.2) (star_ok h.1.2)) ?_
    rintro σ H Q ⟨W, env, obs, S, g⟩
    refine LG.bnd1 .refl S g fun x o1 v W1 H1 l1 S1 r1 g1 => ?_
    refine LG.bnd1 l1 S1 g1 fun xs o2 vs W2 H2 l2 S2 r2 g2 => ?_
    obtain ⟨ps, nd, hp, q⟩ := r2
    obtain ⟨p, us, rfl, n0, ra, hh, rs⟩ := r1
    refine g2 _ W2 H2 (l1.trans l2) S2 ⟨p :: ps, List.nodup_cons.mpr ⟨fun z => ?_, nd⟩, fun p' hq => ?_, rfl, ⟨us, (l2.o p _ ra rfl).trans hh, l2.d.reps rs⟩, q⟩
    · have := (hp p z).1; rw [ra] at this; cases this
    · rcases List.mem_cons.mp hq with rfl | hq
      · exact ⟨n0, l2.r _ _ ra⟩
      · refine ⟨?_, (hp p' hq).2⟩
        cases z : W.ρ p' with
        | none => rfl
        | some r => have := (hp p' hq).1; rw [l1.r p' r z] at this; cases this
theorem pgs_nms {X : Cx} {sc : Scope} (hN : X.N = N) (nd : N.Nodup) (hsc : ∀ x, locB sc x = true → Loc X.env.scope x ∧ (X.fn x = true ∨ X.env.scope.names.lookup x = some .local)) : ∀ {ts : List Nat} {es : List Expr}, chkNms N sc ts es = true →
    PGs X es (gNms ts) ∧ (assignEach es X.env).length = ts.length ∧ (assignEach es X.env).findIdx? (·.1) = none
  | [], [], _ => ⟨pgs_nil, rfl, rfl⟩
  | [], _ :: _, h => by simp [chkNms] at h
  | _ :: _, [], h => by simp [chkNms] at h
  | t :: ts, e :: es, h => by
    cases e with
    | Name x pos =>
      simp only [chkNms, Bool.and_eq_true, decide_eq_true_eq] at h
      obtain ⟨⟨a, b⟩, d⟩ := h
      obtain ⟨h1, h3, h4⟩ := pgs_nms hN nd hsc d
      obtain ⟨l1, l2⟩ := hsc x b
      refine ⟨pgs_cons (pg_name (by rw [hN]; exact nd) (by rw [hN]; exact a) l1 l2) h1 (by rfl), ?_, ?_⟩
      · show (assignEach es X.env).length + 1 = _
        rw [h3]; rfl
      · show List.findIdx? (·.1) ((false, assign (.Name x pos) X.env) :: assignEach es X.env) = none
        rw [List.findIdx?_cons]
        simp [h4]
    | _ => simp [chkNms] at h
theorem CtxS.loc {X : Cx} {sc : Scope} (c : CtxS CA fs bs N G Φ n sc X) : ∀ x, locB sc x = true → Loc X.env.scope x ∧ (X.fn x = true ∨ X.env.scope.names.lookup x = some .local) := fun x h => ⟨by rw [c.c.hsc]; exact locB_ok h, .inl (c.fn x)⟩
theorem len2 {α : Type} {l : List α} (h : l.length = 2) : ∃ a b, l = [a, b] := by
  cases l with
  | nil => cases h
  | cons a l => cases l with
    | nil => cases h
    | cons b l => cases l with
      | nil => exact ⟨a, b, rfl⟩
      | cons _ _ => simp at h
theorem len3 {α : Type} {l : List α} (h : l.length = 3) : ∃ a b c, l = [a, b, c] := by
  cases l with
  | nil => cases h
  | cons a l =>
    obtain ⟨b, c, rfl⟩ := len2 (l := l) (by simpa using h)
    exact ⟨a, b, c, rfl⟩
theorem chkPs_len {sc : Scope} : ∀ {es : List (E ⊕ Fr)} {es' : List Expr}, chkPs fs bs N sc es es' = true → es'.length = es.length
  | [], [], _ => rfl
  | [], _ :: _, h => by simp [chkPs] at h
  | .inl _ :: _, [], h => by simp [chkPs] at h
  | .inr _ :: _, [], h => by simp [chkPs] at h
  | .inl a :: r, a' :: r', h => by
    simp only [chkPs, Bool.and_eq_true] at h
    exact congrArg (· + 1) (chkPs_len h.2)
  | .inr a :: r, a' :: r', h => by
    simp only [chkPs, Bool.and_eq_true] at h
    exact congrArg (· + 1) (chkPs_len h.2)
theorem nms1 {sc : Scope} {i : Nat} {is : List Nat} {es : List Expr} (h : chkNms N sc (i :: is) es = true) : ∃ x px r, es = .Name x px :: r ∧ chkNms N sc is r = true := by
  cases es with
  | nil => simp [chkNms] at h
  | cons e r => cases e with
    | Name x px =>
      simp only [chkNms, Bool.and_eq_true] at h
      exact ⟨x, px, r, rfl, h.2⟩
    | _ => simp [chkNms] at h
theorem nms0 {sc : Scope} {es : List Expr} (h : chkNms N sc [] es = true) : es = [] := by
  cases es with
  | nil => rfl
  | cons _ _ => simp [chkNms] at h
theorem nms2 {sc : Scope} {i j : Nat} {es : List Expr} (h : chkNms N sc [i, j] es = true) : ∃ x px y py, es = [.Name x px, .Name y py] := by
  obtain ⟨x, px, r, rfl, h'⟩ := nms1 h
  obtain ⟨y, py, r', rfl, h''⟩ := nms1 h'
  rw [nms0 h'']
  exact ⟨x, px, y, py, rfl⟩
theorem nms3 {sc : Scope} {i j l : Nat} {es : List Expr} (h : chkNms N sc [i, j, l] es = true) : ∃ x px y py z pz, es = [.Name x px, .Name y py, .Name z pz] := by
  obtain ⟨x, px, r, rfl, h'⟩ := nms1 h
  obtain ⟨y, py, z, pz, rfl⟩ := nms2 h'
  exact ⟨x, px, y, py, z, pz, rfl⟩
theorem sound_par {X : Cx} {sc : Scope} {W0 : WX} {ts : List Nat} {es : List (E ⊕ Fr)} {ts' es' : List Expr} {k k2 : Nat} {p p2 pos : Pos} {M : Nat} (c : CtxS CA fs bs N G Φ n sc X) (tk : Takes X W0) (h : chkPar fs bs N sc ts es ts' es' = true) :
    PS X (.Assign [.Tuple ts' k p] (.Tuple es' k2 p2) pos) (LS X.K CA W0 (denS Φ G M (.par ts es))) := by
  simp only [chkPar, Bool.and_eq_true, decide_eq_true_eq] at h
  obtain ⟨⟨⟨⟨h1, h2⟩, h3⟩, h4⟩, h5⟩ := h
  obtain ⟨q1, q2, q3⟩ := pgs_nms c.c.hN c.c.nd c.loc h1
  have hps := soundPs c.c tk h2
  -- what is asked behind the parts
  have fin : ∀ {W : Wd} {σ : L2.St} {H H' : Hp} {env : Env} {o : Obs} {xs : List Sl} {vs : List V} {D : Ends} {W1 : Wd}, SRel X.K CA W1 σ H env o → relP X.K W W1 H vs xs → (∀ q u, H q = some u → H' q = some u) → LPost X.K CA W0 W1 D (match setSl ts xs env with | some env => .nx env o | none => .bad) → vs.length = ts.length ∧ D.nx (setV ts vs σ) H' := by
    rintro W σ H H' env o xs vs D W1 S1 ⟨ps, nd, hp, q⟩ hh g
    cases he : setSl ts xs env with
    | none => rw [he] at g; exact g.elim
    | some env' =>
      rw [he] at g
      have S1' := S1.heap hh
      have q' : PRel X.K W1 H' vs xs ps := q.mono .refl fun p hp' => by
        obtain ⟨u, hu⟩ := S1.h.live p _ (hp p hp').2
        rw [hu, hh p u hu]
      obtain ⟨W2, l2, S2⟩ := S1'.setSl q' nd (fun p hp' => (hp p hp').2) he
      refine ⟨?_, g _ W2 H' l2 S2⟩
      rw [q.length]
      clear q q' S1 S1' g hp nd hh l2 S2
      revert he
      generalize ts = l
      intro he
      induction l generalizing xs env with
      | nil => cases xs with
        | nil => rfl
        | cons _ _ => cases he
      | cons i l ih => cases xs with
        | nil => cases he
        | cons s xs => exact congrArg (· + 1) (ih he)
  split at h5
  · rename_i hsw
    refine PS.weak (ps_asg (pe_tup hps) (pg_tup c.c.calm q1 q2 q3) sw_tup (swP_ok c.kind (by rw [c.c.hsc]; exact hsw)) rfl) ?_
    rintro D σ H ⟨W, env, obs, S, g⟩
    refine LS.bnd (rel := relP X.K) S g fun xs o1 vs W1 H1 l1 S1 r1 g1 => ?_
    have hl := (fin S1 r1 (H' := H1) (fun _ _ z => z) g1).1
    refine ⟨by rw [hl]; exact Nat.le_trans h4 (by decide), fun q hq => ?_⟩
    have := (fin S1 r1 (H' := upd H1 q (.tup vs)) (fun a u z => by rw [upd_ne (ne_of_none z hq)]; exact z) g1).2
    exact ⟨q, vs, rfl, SqT.of upd_same, hl, gNms_of hl this⟩
  · rename_i ns hsw
    simp only [Bool.and_eq_true, decide_eq_true_eq, Bool.or_eq_true, beq_iff_eq, List.all_eq_true] at h5
    obtain ⟨⟨⟨hns, hlc⟩, hnd⟩, hlen⟩ := h5
    have hsw' := swP_ok (k := k) (k2 := k2) (p := p) (p2 := p2) c.kind (by rw [c.c.hsc]; exact hsw)
    have lcl : ∀ x, lclB sc x = true → X.env.scope.names.lookup x = some .local := fun x hx => by
      rw [c.c.hsc]
      unfold lclB at hx
      split at hx
      · rename_i e; exact e
      · cases hx
    have hel : es'.length = ts.length := (chkPs_len h2).trans h3.symm
    rcases hlen with hlen | hlen
    · obtain ⟨i, j, rfl⟩ := len2 hlen
      obtain ⟨a, b, rfl⟩ := len2 (hel.trans hlen)
      obtain ⟨x, px, y, py, rfl⟩ := nms2 h1
      simp only [chkNms, Bool.and_eq_true, decide_eq_true_eq, Bool.and_true] at h1
      obtain ⟨⟨a1, a2⟩, ⟨b1, b2⟩⟩ := h1
      rw [hns] at hsw'
      have hij : i ≠ j := by simpa using hnd
      refine PS.weak (ps_par c.c.calm (by rw [c.c.hN]; exact c.c.nd) (by rw [c.c.hN]; exact a1) (by rw [c.c.hN]; exact b1) hij (lcl x (hlc x (by simp [idents]))) (lcl y (hlc y (by simp [idents]))) hps hsw' sw_tup) ?_
      rintro D σ H ⟨W, env, obs, S, g⟩
      refine LS.bnd (rel := relP X.K) S g fun xs o1 vs W1 H1 l1 S1 r1 g1 => ?_
      obtain ⟨hl, q⟩ := fin S1 r1 (H' := H1) (fun _ _ z => z) g1
      obtain ⟨v, w, rfl⟩ := len2 hl
      exact ⟨v, w, rfl, q⟩
    · obtain ⟨i, j, l, rfl⟩ := len3 hlen
      obtain ⟨a, b, d, rfl⟩ := len3 (hel.trans hlen)
      obtain ⟨x, px, y, py, z, pz, rfl⟩ := nms3 h1
      simp only [chkNms, Bool.and_eq_true, decide_eq_true_eq, Bool.and_true] at h1
      obtain ⟨⟨a1, a2⟩, ⟨b1, b2⟩, ⟨c1, c2⟩⟩ := h1
      rw [hns] at hsw'
      have hnd' : (i ≠ j ∧ i ≠ l) ∧ j ≠ l := by simpa using hnd
      refine PS.weak (ps_par3 c.c.calm (by rw [c.c.hN]; exact c.c.nd) (by rw [c.c.hN]; exact a1) (by rw [c.c.hN]; exact b1) (by rw [c.c.hN]; exact c1) hnd'.1.1 hnd'.1.2 hnd'.2 (lcl x (hlc x (by simp [idents]))) (lcl y (hlc y (by simp [idents]))) (lcl z (hlc z (by simp [idents]))) hps hsw' sw_tup) ?_
      rintro D σ H ⟨W, env, obs, S, g⟩
      refine LS.bnd (rel := relP X.K) S g fun xs o1 vs W1 H1 l1 S1 r1 g1 => ?_
      obtain ⟨hl, q⟩ := fin S1 r1 (H' := H1) (fun _ _ z => z) g1
      obtain ⟨u, v, w, rfl⟩ := len3 hl
      exact ⟨u, v, w, rfl, q⟩
  · cases h5
/-- raise c(e) -/
theorem sound_rse {X : Cx} {sc : Scope} {W0 : WX} {cn x : Str} {e : E} {e' : Expr} {p cpos pos : Pos} {M : Nat} (c : CtxS CA fs bs N G Φ n sc X) (tk : Takes X W0) (h0 : (cn == x) = true) (h1 : glB sc x = true) (h2 : (!dbg x) = true) (h3 : bs.contains (clsNm cn) = true) (h5 : (!isStar e') = true)
    (he : PE X e' (LE X.K CA W0 (denE Φ G e))) : PS X (.Raise (some (.Call (.Name x p) [e'] [] cpos)) none pos) (LS X.K CA W0 (denS Φ G M (.rse cn e))) := by
  obtain rfl := eq_of_beq h0
  simp only [Bool.not_eq_true'] at h2 h5
  obtain ⟨C, fI, fd, hCA, hmg, oc', hini, hty, hfn, hbd, _, _, _⟩ := (c.c.mo.cl _ (by simpa using h3)).ex
  have hst := star_ok (es := []) (env := X.env) h5
  have mk := pmk_oex (X := X) (p := p) (pos := cpos) (ds := []) (dvs := []) oc' hini hty hfn (c.c.room.mono c.c.mo.two) hbd .nil (fun pins σ H s e s' I q => by obtain ⟨_, _, _, _, _, _, _, _, _, _, _, _, z⟩ := q; exact z.elim) (glB_ok c.c.hsc h1) hmg (pa_cons he pa_nil hst) h2 hst rfl
  refine PS.weak (ps_raise c.c.calm tk mk) ?_
  rintro D σ H ⟨W, env, obs, S, g⟩
  refine one_of (X := X) ?_
  refine LS.bnd (rel := relE X.K) S g fun x o1 v W1 H1 l1 S1 r1 g1 => ?_
  cases x with
  | int i =>
    simp only [raiseD] at g1
    split at g1
    · rename_i hi
      cases r1
      refine ⟨by simp, fun a hna => ⟨a, i, rfl, hi, upd_same, fun dx hdx hne => ⟨rfl, dx, [(("place" : Str), .int i)], upd_same, ?_, ?_, ?_⟩⟩⟩
      · rw [upd_ne hne, upd_same]
      · rw [upd_ne hne] at hdx; exact hdx
      · have hd1 : H1 dx = none := by rw [upd_ne hne] at hdx; exact hdx
        have e3 : upd (del (upd (upd (upd H1 a (exo a C none)) dx (exd dx [(("place" : Str), .int i)])) a (exo a C (some dx))) a) dx (.xd [(("place" : Str), .int i)]) = upd H1 dx (.xd [(("place" : Str), .int i)]) := by
          funext b
          by_cases hb : b = dx
          · rw [hb, upd_same, upd_same]
          · rw [upd_ne hb, upd_ne hb]
            by_cases ha : b = a
            · rw [ha, del_same, hna]
            · rw [del_ne ha, upd_ne ha, upd_ne hb, upd_ne ha]
        rw [e3]
        refine g1 _ _ _ W1 _ .refl (S1.heap fun p o z => ?_) ⟨C, dx, .int i, hCA, rfl, rfl, upd_same, .int i⟩
        rw [upd_ne (ne_of_none z hd1)]; exact z
    · exact g1.elim
  | _ => exact g1.elim
theorem XR.cls {K : PySem.W.Frag} {CA : Str → Option Addr} {W1 : Wd} {cls : Value} {dd : Option Addr} {H' : Hp} {a : D} {cn : Str} {C : Addr} (hCA : CA cn = some C) (x : XR K CA W1 H' cls dd cn a) : cls = .ref C := by
  cases a with
  | non => obtain ⟨C', e1, e2⟩ := x; rw [hCA] at e1; cases e1; exact e2
  | _ => obtain ⟨C', _, _, e1, e2, _⟩ := x; rw [hCA] at e1; cases e1; exact e2
/-- a try's body, by what the suite does with the exceptions of it -/
theorem try_of {K : PySem.W.Frag} {CA : Str → Option Addr} {W0 W : WX} {T : Ends} {σ : L2.St} {H : Hp} {cn : Str} {hd : Hd} {f : Env → Obs → RS} (g : LS K CA W0 (fun env o => tryD cn hd (f env o)) T σ H)
    (k : ∀ {W1 : Wd} {cls : Value} {dd : Option Addr} {σ' : L2.St} {H' : Hp} {a : D} {env' : Env} {o : Obs}, SRel K CA W1 σ' H' env' o → XR K CA W1 H' cls dd cn a → LPost K CA W0 W1 T (denHd hd a env' o) → W cls dd σ' H') : LS K CA W f T σ H := by
  obtain ⟨Wd0, env, obs, S, g⟩ := g
  refine ⟨Wd0, env, obs, S, ?_⟩
  replace g : LPost K CA W0 Wd0 T (tryD cn hd (f env obs)) := g
  cases hb : f env obs with
  | ex c' a e o =>
    rw [hb] at g
    simp only [tryD] at g
    split at g
    · rename_i hc
      subst hc
      exact fun cls dd σ' W' H' l S' x => k S' x (LPost.mono l g)
    · exact g.elim
  | nx e o => rw [hb] at g; exact g
  | rt d o => rw [hb] at g; exact g
  | bk e o => rw [hb] at g; exact g
  | ct e o => rw [hb] at g; exact g
  | bad => rw [hb] at g; exact g
/-- try: .. except c [as ..]: a suite that is told -/
theorem sound_try {X : Cx} {sc : Scope} {W0 : WX} {cn x : Str} {b : Ss} {hd : Hd} {b' su : List Stmt} {nm : Option Str} {np pos' pos : Pos} {M : Nat} (c : CtxS CA fs bs N G Φ n sc X) (tk : Takes X W0) (h0 : (cn == x) = true) (h1 : glB sc x = true) (h2 : (!dbg x) = true) (h3 : bs.contains (clsNm cn) = true) (h5 : chkHd N sc hd nm su = true)
    (hbody : ∀ (W : WX) (pn : List (Addr × Obj)) (xe : Value → Shared → Prop), Takes (X.tr pn xe) W → PassesOwn (model X.prog X.w) X.A X.env xe → PSs (X.tr pn xe) b' (LS X.K CA W (denSs Φ G M b))) :
    PS X (.Try b' [.ExceptHandler (some (.Name x np)) nm su pos'] [] [] pos) (LS X.K CA W0 (denS Φ G M (.trye b cn hd))) := by
  obtain rfl := eq_of_beq h0
  simp only [Bool.not_eq_true'] at h2
  obtain ⟨C, fI, fd, hCA, hmg, oc', hini, hty, hfn, hbd, hxf, hpl, hexm⟩ := (c.c.mo.cl _ (by simpa using h3)).ex
  have hnm : Names X cn (.ref C) := ⟨glB_ok c.c.hsc h1, h2, .inl hmg⟩
  have nd : X.N.Nodup := by rw [c.c.hN]; exact c.c.nd
  unfold chkHd at h5
  split at h5
  · rename_i i j n' y py e' p1 f p2 pos2
    simp only [Bool.and_eq_true, Bool.not_eq_true', beq_iff_eq, decide_eq_true_eq] at h5
    obtain ⟨⟨⟨⟨⟨⟨⟨⟨q1, q2⟩, rfl⟩, q3⟩, q4⟩, rfl⟩, q5⟩, q6⟩, q7⟩ := h5
    have lcl : X.env.scope.names.lookup e' = some .local := by
      rw [c.c.hsc]; unfold lclB at q2
      split at q2
      · rename_i z; exact z
      · cases q2
    obtain ⟨l1, l2⟩ := c.loc y q6
    rw [← c.c.hN] at q1 q5
    refine PS.weak (ps_try_as (i := i) (tb := fun W => LS X.K CA W (denSs Φ G M b)) (ts := fun a cls dd => tAsg (tXf a cls dd C "place" (tVar i)) (gName j)) (Wout := W0) c.stk c.fr nd q1 lcl hnm tk hbody fun a oe cls dd pn hz hf => ?_) ?_
    · exact pss_one (ps_set (X := X.suite a ((a, oe) :: pn)) nd q5 l1 (pe_xf hxf hpl hz hf (pe_var (i := i) q1 (.inl lcl) q3 q4)) (sw_false c.kind (by rw [c.c.hsc]; exact q7)) l2)
    · intro D σ H g
      refine try_of g fun {W1 cls dd σ' H' a env' o} S' x k => ?_
      obtain rfl := XR.cls hCA x
      refine ⟨true, hexm, fun _ p hp => ?_, fun z => nomatch z⟩
      cases a with
      | int k' =>
        obtain ⟨C', d1, v, e1, e2, e3, e4, e5⟩ := x
        cases e5
        simp only [denHd] at k
        split at k
        · rename_i hlt
          have hlt' : i < σ'.length := by rw [S'.len]; exact hlt
          refine ⟨.ref p, by rw [List.getElem?_set_self hlt'], rfl, rfl, d1, _, .int k', e3, e4, by simp [List.lookup], ?_⟩
          refine k _ W1 H' .refl (((S'.set (i := i) (v := .ref p) (s := .un) trivial).set (i := j) (v := .int k') (s := .v (.int k')) ⟨_, rfl, .int k'⟩).weak (by simp [S'.len]) fun m s hs => ?_)
          by_cases hm : i = m
          · subst hm
            rw [List.getElem?_set_self (by simpa using hlt)] at hs
            cases hs; exact .inl rfl
          · rw [List.getElem?_set_ne hm] at hs
            exact .inr ⟨hs, by rw [List.getElem?_set_ne hm]⟩
        · exact k.elim
      | _ => exact k.elim
  · rename_i j d y py k' q p2 pos2
    simp only [Bool.and_eq_true, Bool.not_eq_true', decide_eq_true_eq] at h5
    obtain ⟨⟨⟨q1, q2⟩, q3⟩, q4⟩ := h5
    obtain ⟨l1, l2⟩ := c.loc y q2
    rw [← c.c.hN] at q1
    have hv := fun K W => (lit_ok (X := X) (j := q) (pos := p2) q4).2 K W
    refine PS.weak (ps_try_only (tb := fun W => LS X.K CA W (denSs Φ G M b)) (ts := fun a cls dd => tAsg (tC (litV d)) (gName j)) (Wout := W0) c.stk c.fr hnm tk hbody fun a oe cls dd pn hz hf => ?_) ?_
    · exact pss_one (ps_set (X := X.suite a ((a, oe) :: pn)) nd q1 l1 (lit_ok (j := q) (pos := p2) q4).1 (sw_false c.kind (by rw [c.c.hsc]; exact q3)) l2)
    · intro D σ H g
      refine try_of g fun {W1 cls dd σ' H' a env' o} S' x k => ?_
      obtain rfl := XR.cls hCA x
      exact ⟨true, hexm, fun _ p hp => k _ W1 H' .refl (S'.set ⟨_, rfl, hv _ _⟩), fun z => nomatch z⟩
  · rename_i d k' q p2 pos2
    have hv := fun K W => (lit_ok (X := X) (j := q) (pos := p2) h5).2 K W
    refine PS.weak (ps_try_only (tb := fun W => LS X.K CA W (denSs Φ G M b)) (ts := fun a cls dd => tRet (tC (litV d))) (Wout := W0) c.stk c.fr hnm tk hbody fun a oe cls dd pn hz hf => ?_) ?_
    · exact pss_one (ps_ret (X := X.suite a ((a, oe) :: pn)) (lit_ok (j := q) (pos := p2) h5).1)
    · intro D σ H g
      refine try_of g fun {W1 cls dd σ' H' a env' o} S' x k => ?_
      obtain rfl := XR.cls hCA x
      exact ⟨true, hexm, fun _ p hp => k _ W1 H' .refl S'.h (hv _ _), fun z => nomatch z⟩
  · cases h5
end
end Mp

set_option Elab.async false
set_option linter.all false
set_option maxRecDepth 100000
set_option maxHeartbeats 4000000
/-! THE THEOREM for statements, blocks, defs and programs. -/
namespace Mp
open PySem PySem.Spec PyProof.Rows L2

section
variable {CA : Str → Option Addr} {fs bs N : List Str} {G : Str → Option D} {Φ : Str → List D → Obs → R D} {n M : Nat}
/-- the slot of a name that is read -/
theorem slot_ok {X : Cx} {sc : Scope} {i : Nat} {x : Str} {pos : Pos} (c : Ctx CA fs bs N G Φ n sc X) (h : (decide (N[i]? = some x) && visB sc x && !dbg x && !(x == ("__classdict__" : Str))) = true) : PE X (.Name x pos) (tVar i) := by
  simp only [Bool.and_eq_true, decide_eq_true_eq, Bool.not_eq_true'] at h
  obtain ⟨⟨⟨h1, h2⟩, h3⟩, h4⟩ := h
  exact pe_var (i := i) (by rw [c.hN]; exact h1) (by rw [c.hsc]; exact visB_ok h2) h3 h4
theorem asg_sub {a b : Expr} {pos : Pos} {env : PySem.Env} (h : isSlice b = false) : ∀ v, assign (.Subscript a b pos) env v = (do
      let ov ← holding [v] (eval a env)
      let iv ← holding [v, ov] (eval b env)
      standAt pos
      holding [v, ov, iv] (setItem ov iv v)
      release [v, ov, iv] []) := fun v => by
  cases b <;> first | rfl | (simp [isSlice] at h)
mutual
theorem soundS : ∀ (m : S) {X : Cx} {sc : Scope} {W0 : WX} {st : Stmt}, CtxS CA fs bs N G Φ n sc X → Takes X W0 → chkS fs bs N sc m st = true → PS X st (LS X.K CA W0 (denS Φ G M m))
  | .rse cn e, X, sc, W0, st, c, tk, h => by
    cases st with
    | Raise oe oc pos =>
      cases oe with
      | none => simp [chkS] at h
      | some e0 =>
        cases e0 with
        | Call f es' kws cpos =>
          cases f with
          | Name x p =>
            cases kws with
            | cons _ _ => simp [chkS] at h
            | nil =>
              cases oc with
              | some _ => simp [chkS] at h
              | none =>
                unfold chkS at h
                split at h
                · simp only [Bool.and_eq_true] at h
                  exact sound_rse c tk h.1.1.1.1.1 h.1.1.1.1.2 h.1.1.1.2 h.1.1.2 h.2 (soundE e c.c tk h.1.2)
                · cases h
          | _ => simp [chkS] at h
        | _ => simp [chkS] at h
    | _ => simp [chkS] at h
  | .trye b cn hd, X, sc, W0, st, c, tk, h => by
    cases st with
    | Try b' hs' oe fb pos =>
      cases oe with
      | cons _ _ => simp [chkS] at h
      | nil =>
        cases fb with
        | cons _ _ => simp [chkS] at h
        | nil =>
          unfold chkS at h
          split at h
          · simp only [Bool.and_eq_true] at h
            refine sound_try (M := M) c tk h.1.1.1.1.1 h.1.1.1.1.2 h.1.1.1.2 h.1.1.2 h.2 fun W pn xe tk' po => ?_
            exact soundSs b (X := X.tr pn xe) ⟨⟨c.c.hN, c.c.nd, c.c.hsc, c.c.calm, c.c.room, c.c.mo⟩, po, c.fn, c.kind, c.stk, c.fr⟩ tk' h.1.2
          · cases h
    | _ => simp [chkS] at h
  | .set i e, X, sc, W0, st, c, tk, h => by
    cases st with
    | Assign tgs e' pos =>
      unfold chkS at h
      split at h
      · rename_i x px
        simp only [Bool.and_eq_true, decide_eq_true_eq, Bool.or_eq_true, Bool.not_eq_true'] at h
        obtain ⟨⟨⟨h1, h2⟩, h3⟩, h4⟩ := h
        obtain ⟨l1, l2⟩ := c.loc x h2
        rcases h4 with h4 | h4
        · refine PS.weak (ps_set (by rw [c.c.hN]; exact c.c.nd) (by rw [c.c.hN]; exact h1) l1 (soundE e c.c tk h3) (sw_false c.kind (by rw [c.c.hsc]; exact h4)) l2) ?_
          rintro D σ H ⟨W, env, obs, S, g⟩
          exact LS.bnd (rel := relE X.K) S g fun a o1 v W1 H1 l1 S1 r1 g1 => g1 _ W1 H1 .refl (S1.set ⟨v, rfl, r1⟩)
        · cases hsw : swB sc x px e' with
          | false =>
            refine PS.weak (ps_set (by rw [c.c.hN]; exact c.c.nd) (by rw [c.c.hN]; exact h1) l1 (soundE e c.c tk h3) (sw_false c.kind (by rw [c.c.hsc]; exact hsw)) l2) ?_
            rintro D σ H ⟨W, env, obs, S, g⟩
            exact LS.bnd (rel := relE X.K) S g fun a o1 v W1 H1 l1 S1 r1 g1 => g1 _ W1 H1 .refl (S1.set ⟨v, rfl, r1⟩)
          | true =>
            cases e with
            | lc x0 tg it k own =>
              obtain ⟨x', tg', it', ifs', scope, p2, rfl, p1, p3, p4, p5, p6, p7, p8⟩ := lc_parts c.c tk h3
              simp only [swB, Bool.and_eq_true, Bool.not_eq_true'] at hsw
              obtain ⟨⟨s1, s2⟩, s3⟩ := hsw
              have hl : X.env.scope.names.lookup x = some .local := by
                rw [c.c.hsc]; unfold lclB at s1
                split at s1
                · rename_i z; exact z
                · cases s1
              refine PS.weak (ps_setLc c.c.calm (by rw [c.c.hN]; exact c.c.nd) (by rw [c.c.hN]; exact h1) hl (sw_true c.kind hl s2 s3) p1 p3 p4 p5 p6 p7) ?_
              rintro D σ H ⟨W, env, obs, S, g⟩
              refine lc_of p8 (lf_of ?_)
              exact LS.bnd (rel := relE X.K) (fa := denE Φ G (.lc x0 tg it k own)) S g fun a o1 v W1 H1 l1 S1 r1 g1 => g1 _ W1 H1 .refl (S1.set ⟨v, rfl, r1⟩)
            | _ => cases h4
      · cases h
    | _ => simp [chkS] at h
  | .new i f, X, sc, W0, st, c, tk, h => by
    cases st with
    | Assign tgs e' pos =>
      unfold chkS at h
      split at h
      · rename_i x px
        simp only [Bool.and_eq_true, decide_eq_true_eq, Bool.or_eq_true, Bool.not_eq_true'] at h
        obtain ⟨⟨⟨h1, h2⟩, h3⟩, h4⟩ := h
        obtain ⟨l1, l2⟩ := c.loc x h2
        have plain : swB sc x px e' = false → PS X (.Assign [.Name x px] e' pos) (LS X.K CA W0 (denS Φ G M (.new i f))) := fun h4 => by
          refine PS.weak (ps_set (by rw [c.c.hN]; exact c.c.nd) (by rw [c.c.hN]; exact h1) l1 (soundF c.c tk h3) (sw_false c.kind (by rw [c.c.hsc]; exact h4)) l2) ?_
          rintro D σ H ⟨W, env, obs, S, g⟩
          refine LS.bnd (rel := relF X.K) S g fun a o1 v W1 H1 l1 S1 r1 g1 => ?_
          obtain ⟨p, vs, rfl, n0, ra, hp, rs⟩ := r1
          obtain ⟨W2, l2, S2, _⟩ := S1.put_own (i := i) ra hp rs
          exact g1 _ W2 H1 l2 S2
        rcases h4 with h4 | h4
        · exact plain h4
        · cases hsw : swB sc x px e' with
          | false => exact plain hsw
          | true =>
            cases f with
            | lc x0 tg it k own =>
              obtain ⟨x', tg', it', ifs', scope, p2, rfl, p1, p3, p4, p5, p6, p7, p8⟩ := lc_parts c.c tk (by simpa [chkF] using h3)
              simp only [swB, Bool.and_eq_true, Bool.not_eq_true'] at hsw
              obtain ⟨⟨s1, s2⟩, s3⟩ := hsw
              have hl : X.env.scope.names.lookup x = some .local := by
                rw [c.c.hsc]; unfold lclB at s1
                split at s1
                · rename_i z; exact z
                · cases s1
              refine PS.weak (ps_setLc c.c.calm (by rw [c.c.hN]; exact c.c.nd) (by rw [c.c.hN]; exact h1) hl (sw_true c.kind hl s2 s3) p1 p3 p4 p5 p6 p7) ?_
              rintro D σ H ⟨W, env, obs, S, g⟩
              refine lc_of p8 ?_
              refine LS.bnd (rel := relF X.K) (fa := denF Φ G (.lc x0 tg it k own)) S g fun a o1 v W1 H1 l1 S1 r1 g1 => ?_
              obtain ⟨p, vs, rfl, n0, ra, hp, rs⟩ := r1
              obtain ⟨W2, l2, S2, _⟩ := S1.put_own (i := i) ra hp rs
              exact g1 _ W2 H1 l2 S2
            | _ => cases h4
      · cases h
    | _ => simp [chkS] at h
  | .tup ts e, X, sc, W0, st, c, tk, h => by
    cases st with
    | Assign tgs e' pos =>
      unfold chkS at h
      split at h
      · rename_i ts' k p
        simp only [Bool.and_eq_true] at h
        obtain ⟨⟨h1, h2⟩, h3⟩ := h
        obtain ⟨hg, _⟩ := pg_of c.c.hN c.c.nd c.c.calm c.loc h1
        refine PS.weak (ps_asg (soundE e c.c tk h2) hg sw_tup (swN_ok h3) rfl) ?_
        rintro D σ H ⟨W, env, obs, S, g⟩
        refine LS.bnd (rel := relE X.K) S g fun a o1 v W1 H1 l1 S1 r1 g1 => ?_
        cases he : setTg (.tp ts) a env with
        | none => rw [he] at g1; exact g1.elim
        | some env' =>
          rw [he] at g1
          exact tg_of (tg := .tp ts) S1 r1 he fun σ' S2 _ => g1 _ W1 H1 .refl S2
      · cases h
    | _ => simp [chkS] at h
  | .tgt tg e, X, sc, W0, st, c, tk, h => by
    cases st with
    | Assign tgs e' pos =>
      unfold chkS at h
      split at h
      · rename_i ts' k p
        simp only [Bool.and_eq_true] at h
        obtain ⟨⟨h1, h2⟩, h3⟩ := h
        obtain ⟨hg, _⟩ := pg_of c.c.hN c.c.nd c.c.calm c.loc h1
        have hsw : swappedStores [.Tuple ts' k p] e' X.env = pure none := by
          cases e' with
          | Tuple es' k2 p2 =>
            simp only at h3
            split at h3
            · rename_i hs
              exact swP_ok c.kind (by rw [c.c.hsc]; exact hs)
            · cases h3
          | _ => exact swN_ok rfl
        refine PS.weak (ps_asg (soundE e c.c tk h2) hg sw_tup hsw rfl) ?_
        rintro D σ H ⟨W, env, obs, S, g⟩
        refine LS.bnd (rel := relE X.K) S g fun a o1 v W1 H1 l1 S1 r1 g1 => ?_
        cases he : setTg tg a env with
        | none => rw [he] at g1; exact g1.elim
        | some env' =>
          rw [he] at g1
          exact tg_of S1 r1 he fun σ' S2 _ => g1 _ W1 H1 .refl S2
      · cases h
    | _ => simp [chkS] at h
  | .par ts es, X, sc, W0, st, c, tk, h => by
    cases st with
    | Assign tgs e' pos =>
      unfold chkS at h
      split at h
      · exact sound_par c tk h
      · cases h
    | _ => simp [chkS] at h
  | .aug i op e, X, sc, W0, st, c, tk, h => by
    cases st with
    | AugAssign t op' e' pos =>
      cases t with
      | Name x px =>
        simp only [chkS, Bool.and_eq_true, decide_eq_true_eq] at h
        obtain ⟨⟨⟨h1, h2⟩, rfl⟩, h3⟩ := h
        obtain ⟨l1, l2⟩ := c.loc x h2
        obtain ⟨r, hr, hop⟩ := aug_ok (X := X) (CA := CA) op
        refine PS.weak (ps_aug (by rw [c.c.hN]; exact c.c.nd) (by rw [c.c.hN]; exact h1) l1 (soundE e c.c tk h3) hr l2) ?_
        rintro D σ H ⟨W, env, obs, S, g⟩
        have g : LPost X.K CA W0 W D (match env[i]? with
          | some (.v x) => (denE Φ G e env obs).st env fun y o => match augD op x y with
            | some z => .nx (env.set i (.v z)) o
            | none => .bad
          | _ => .bad) := g
        cases hi : env[i]? with
        | none => rw [hi] at g; exact g.elim
        | some s =>
          rw [hi] at g
          cases s with
          | v a =>
            obtain ⟨u, hu, ru⟩ := S.get hi
            refine ⟨u, hu, ?_⟩
            refine LS.bnd (rel := relE X.K) S g fun b o1 v W1 H1 l1 S1 r1 g1 => ?_
            cases hz : augD op a b with
            | none => simp only [hz] at g1; exact g1.elim
            | some z =>
              simp only [hz] at g1
              exact hop W1 σ H1 env o1 u v a b z _ S1 (l1.d.rep ru) r1 hz fun w W2 H2 l2 S2 r2 => g1 _ W2 H2 l2.s (S2.set ⟨w, rfl, r2⟩)
          | _ => exact g.elim
      | _ => simp [chkS] at h
    | _ => simp [chkS] at h
  | .app i e, X, sc, W0, st, c, tk, h => by
    cases st with
    | Expr cl pos =>
      cases cl with
      | Call f es' kws cpos =>
        cases f with
        | Attribute o m apos =>
          cases o with
          | Name x px =>
            cases kws with
            | cons _ _ => simp [chkS] at h
            | nil =>
              cases es' with
              | nil => simp [chkS] at h
              | cons e' er =>
                cases er with
                | cons _ _ => simp [chkS] at h
                | nil =>
                  simp only [chkS, Bool.and_eq_true, Bool.not_eq_true', beq_iff_eq] at h
                  obtain ⟨⟨⟨⟨hx, rfl⟩, hl⟩, he⟩, hs⟩ := h
                  have hv := slot_ok (pos := px) c.c (i := i) (x := x) (by simpa [Bool.and_eq_true, and_assoc] using hx)
                  have hst := star_ok (es := []) (env := X.env) hs
                  refine PS.weak (ps_expr (pe_bm PySem.F.plainAttrs_list PySem.F.slot_list_append PySem.F.type_list_append mt_append hv (pa_cons (soundE e c.c tk he) pa_nil hst) rfl (by rw [hst]; rfl) (by simpa using hl) hst rfl) rfl) ?_
                  rintro D σ H ⟨W, env, obs, S, g⟩
                  have g : LPost X.K CA W0 W D (match env[i]? with
                    | some (.ol ds) => (denE Φ G e env obs).st env fun x o => if ds.length < sizeLine then .nx (env.set i (.ol (ds ++ [x]))) o else .bad
                    | _ => .bad) := g
                  cases hi : env[i]? with
                  | none => rw [hi] at g; exact g.elim
                  | some s =>
                    rw [hi] at g
                    cases s with
                    | ol ds =>
                      obtain ⟨p, vs, hσ, hr, hp, rs⟩ := S.getL hi
                      refine ⟨.ref p, hσ, .inl ⟨rfl, vs, SqL.of hp⟩, ?_⟩
                      refine LS.bnd (rel := relE X.K) S g fun a o1 v W1 H1 l1 S1 r1 g1 => ?_
                      split at g1
                      · rename_i hlt
                        have hp1 : H1 p = some (.lst vs) := (l1.o p _ hr rfl).trans hp
                        have hr1 := l1.r p _ hr
                        exact ⟨p, vs, v, rfl, rfl, hp1, by rw [rs.length]; exact hlt, g1 _ W1 _ .refl (S1.write (List.getElem?_eq_some_iff.mp hi).1 hσ hr1 ((l1.d.reps rs).append (Reps.one r1)) fun s z => by rw [hi] at z; cases z; exact ⟨_, rfl⟩)⟩
                      · exact g1.elim
                    | _ => exact g.elim
          | _ => simp [chkS] at h
        | _ => simp [chkS] at h
      | _ => simp [chkS] at h
    | _ => simp [chkS] at h
  | .ext i e, X, sc, W0, st, c, tk, h => by
    cases st with
    | Expr cl pos =>
      cases cl with
      | Call f es' kws cpos =>
        cases f with
        | Attribute o m apos =>
          cases o with
          | Name x px =>
            cases kws with
            | cons _ _ => simp [chkS] at h
            | nil =>
              cases es' with
              | nil => simp [chkS] at h
              | cons e' er =>
                cases er with
                | cons _ _ => simp [chkS] at h
                | nil =>
                  simp only [chkS, Bool.and_eq_true, Bool.not_eq_true', beq_iff_eq] at h
                  obtain ⟨⟨⟨⟨hx, rfl⟩, hl⟩, he⟩, hs⟩ := h
                  have hv := slot_ok (pos := px) c.c (i := i) (x := x) (by simpa [Bool.and_eq_true, and_assoc] using hx)
                  have hst := star_ok (es := []) (env := X.env) hs
                  refine PS.weak (ps_expr (pe_bm PySem.F.plainAttrs_list PySem.F.slot_list_extend PySem.F.type_list_extend mt_extend hv (pa_cons (soundE e c.c tk he) pa_nil hst) rfl (by rw [hst]; rfl) (by simpa using hl) hst rfl) rfl) ?_
                  rintro D σ H ⟨W, env, obs, S, g⟩
                  have g : LPost X.K CA W0 W D (match env[i]? with
                    | some (.ol ds) => (denE Φ G e env obs).st env fun x o => match x with
                      | .lst es => if ds.length + es.length ≤ sizeLine then .nx (env.set i (.ol (ds ++ es))) o else .bad
                      | _ => .bad
                    | _ => .bad) := g
                  cases hi : env[i]? with
                  | none => rw [hi] at g; exact g.elim
                  | some s =>
                    rw [hi] at g
                    cases s with
                    | ol ds =>
                      obtain ⟨p, vs, hσ, hr, hp, rs⟩ := S.getL hi
                      refine ⟨.ref p, hσ, .inl ⟨rfl, vs, SqL.of hp⟩, ?_⟩
                      refine LS.bnd (rel := relE X.K) S g fun a o1 v W1 H1 l1 S1 r1 g1 => ?_
                      cases a with
                      | lst es =>
                        simp only at g1
                        split at g1
                        · rename_i hlt
                          have hp1 : H1 p = some (.lst vs) := (l1.o p _ hr rfl).trans hp
                          have hr1 := l1.r p _ hr
                          obtain ⟨q, us, rfl, hq, rq⟩ := S1.lst r1
                          exact ⟨p, q, vs, us, rfl, rfl, hp1, hq, by rw [rs.length, rq.length]; exact hlt, g1 _ W1 _ .refl (S1.write (List.getElem?_eq_some_iff.mp hi).1 hσ hr1 ((l1.d.reps rs).append rq) fun s z => by rw [hi] at z; cases z; exact ⟨_, rfl⟩)⟩
                        · exact g1.elim
                      | _ => exact g1.elim
                    | _ => exact g.elim
          | _ => simp [chkS] at h
        | _ => simp [chkS] at h
      | _ => simp [chkS] at h
    | _ => simp [chkS] at h
  | .put i k e, X, sc, W0, st, c, tk, h => by
    cases st with
    | Assign tgs e' pos =>
      unfold chkS at h
      split at h
      · rename_i x px k' kpos
        simp only [Bool.and_eq_true, Bool.not_eq_true'] at h
        obtain ⟨⟨⟨⟨hx, hk⟩, he⟩, hs⟩, hn⟩ := h
        have hv := slot_ok (pos := px) c.c (i := i) (x := x) (by simpa [Bool.and_eq_true, and_assoc] using hx)
        refine PS.weak (ps_asg (soundE e c.c tk he) (pg_sub hv (soundE k c.c tk hk) set_list (asg_sub hs)) sw_sub (swN_ok hn) rfl) ?_
        rintro D σ H ⟨W, env, obs, S, g⟩
        have g : LPost X.K CA W0 W D (match env[i]? with
          | some (.ol ds) => (denE Φ G e env obs).st env fun x o => (denE Φ G k env o).st env fun y o => match y with
            | .int j => match ixN ds.length j with
              | some n => .nx (env.set i (.ol (ds.set n x))) o
              | none => .bad
            | _ => .bad
          | _ => .bad) := g
        cases hi : env[i]? with
        | none => rw [hi] at g; exact g.elim
        | some s =>
          rw [hi] at g
          cases s with
          | ol ds =>
            obtain ⟨p, vs, hσ, hr, hp, rs⟩ := S.getL hi
            refine LS.bnd (rel := relE X.K) S g fun a o1 v W1 H1 l1 S1 r1 g1 => ?_
            refine ⟨.ref p, hσ, ?_⟩
            refine LS.bnd (rel := relE X.K) S1 g1 fun b o2 u W2 H2 l2 S2 r2 g2 => ?_
            cases b with
            | int j =>
              cases r2
              cases hj : ixN ds.length j with
              | none => simp only [hj] at g2; exact g2.elim
              | some m =>
                simp only [hj] at g2
                have l12 := l1.trans l2
                have hp1 : H2 p = some (.lst vs) := (l12.o p _ hr rfl).trans hp
                have hr1 := l12.r p _ hr
                exact ⟨p, vs, j, m, rfl, rfl, hp1, by rw [rs.length]; exact hj, g2 _ W2 _ .refl (S2.write (List.getElem?_eq_some_iff.mp hi).1 hσ hr1 ((l12.d.reps rs).set m (l2.d.rep r1)) fun s z => by rw [hi] at z; cases z; exact ⟨_, rfl⟩)⟩
            | _ => exact g2.elim
          | _ => exact g.elim
      · cases h
    | _ => simp [chkS] at h
  | .oput a k e, X, sc, W0, st, c, tk, h => by
    cases st with
    | Assign tgs e' pos =>
      unfold chkS at h
      split at h
      · rename_i a' k' kpos
        simp only [Bool.and_eq_true, Bool.not_eq_true'] at h
        obtain ⟨⟨⟨⟨ha, hk⟩, he⟩, hs⟩, hn⟩ := h
        refine PS.weak (ps_asg (soundE e c.c tk he) (pg_sub (soundE a c.c tk ha) (soundE k c.c tk hk) set_list (asg_sub hs)) sw_sub (swN_ok hn) rfl) ?_
        rintro D σ H ⟨W, env, obs, S, g⟩
        refine LS.bnd (rel := relE X.K) S g fun x o1 v W1 H1 l1 S1 r1 g1 => ?_
        refine LS.bnd (rel := relE X.K) S1 g1 fun y o2 u W2 H2 l2 S2 r2 g2 => ?_
        refine LS.bnd (rel := relE X.K) S2 g2 fun z o3 w W3 H3 l3 S3 r3 g3 => ?_
        cases z with
        | int j =>
          cases r3
          cases hl : lsO o3 y with
          | none => simp only [hl] at g3; exact g3.elim
          | some ds =>
            cases hj : ixN ds.length j with
            | none => simp only [hl, hj] at g3; exact g3.elim
            | some m =>
              simp only [hl, hj] at g3
              obtain ⟨n, rfl, e3⟩ := lsO_some hl
              obtain ⟨p, vs, rfl, hA, hp, rs⟩ := S3.ols (l3.d.rep r2) e3
              obtain ⟨S4, l4⟩ := S3.owrite (o := .lst (vs.set m v)) (ob := .ls (ds.set m x)) hA (List.getElem?_eq_some_iff.mp e3).1 ⟨_, upd_same, rs.set m ((l2.trans l3).d.rep r1)⟩
              exact ⟨p, vs, j, m, rfl, rfl, hp, by rw [rs.length]; exact hj, g3 _ W3 _ l4.s S4⟩
        | _ => exact g3.elim
      · cases h
    | _ => simp [chkS] at h
  | .ret e, X, sc, W0, st, c, tk, h => by
    cases st with
    | Return oe pos =>
      cases oe with
      | none => simp [chkS] at h
      | some e' =>
        refine PS.weak (ps_ret (soundE e c.c tk (by simpa [chkS] using h))) ?_
        rintro D σ H ⟨W, env, obs, S, g⟩
        exact LS.bnd (rel := relE X.K) S g fun a o1 v W1 H1 l1 S1 r1 g1 => g1 v W1 H1 .refl S1.h r1
    | _ => simp [chkS] at h
  | .ret0, X, sc, W0, st, c, tk, h => by
    cases st with
    | Return oe pos =>
      cases oe with
      | none => exact PS.weak ps_retN fun D σ H ⟨W, env, obs, S, g⟩ => g .non W H .refl S.h .non
      | some _ => simp [chkS] at h
    | _ => simp [chkS] at h
  | .mv i, X, sc, W0, st, c, tk, h => by
    cases st with
    | Return oe pos =>
      cases oe with
      | none => simp [chkS] at h
      | some e' =>
        cases e' with
        | Name x px =>
          refine PS.weak (ps_ret (slot_ok (i := i) c.c (by simpa [chkS] using h))) ?_
          rintro D σ H ⟨W, env, obs, S, g⟩
          have g : LPost X.K CA W0 W D (match env[i]? with
            | some (.ol ds) => .rt (.lst ds) obs
            | _ => .bad) := g
          cases hi : env[i]? with
          | none => rw [hi] at g; exact g.elim
          | some s =>
            rw [hi] at g
            cases s with
            | ol ds =>
              obtain ⟨W2, l2, S2⟩ := S.freeze hi
              obtain ⟨v, hσ, rv⟩ := S2.get (i := i) (d := .lst ds) (by rw [List.getElem?_set_self (List.getElem?_eq_some_iff.mp hi).1])
              exact ⟨v, hσ, g v W2 H l2 S2.h rv⟩
            | _ => exact g.elim
        | _ => simp [chkS] at h
    | _ => simp [chkS] at h
  | .ife k a b, X, sc, W0, st, c, tk, h => by
    cases st with
    | If k' a' b' pos =>
      simp only [chkS, Bool.and_eq_true] at h
      obtain ⟨⟨h1, h2⟩, h3⟩ := h
      refine PS.weak (ps_if (soundT k c.c tk h1) (soundSs a c tk h2) (soundSs b c tk h3)) ?_
      rintro D σ H ⟨W, env, obs, S, g⟩
      refine LS.bnd (rel := relT) S g fun x o1 v W1 H1 l1 S1 r1 g1 => ?_
      have r1 : v = x := r1
      subst r1
      cases v with
      | true => exact ⟨W1, env, o1, S1, g1⟩
      | false => exact ⟨W1, env, o1, S1, g1⟩
    | _ => simp [chkS] at h
  | .whl k b, X, sc, W0, st, c, tk, h => by
    cases st with
    | While k' b' oe pos =>
      cases oe with
      | cons _ _ => simp [chkS] at h
      | nil =>
        simp only [chkS, Bool.and_eq_true] at h
        refine PS.weak (ps_while c.own (soundT k c.c tk h.1) (soundSs b c tk h.2)) ?_
        rintro D σ H ⟨W, env, obs, S, g⟩
        refine ⟨fun m σ' H' => ∃ W' env' o', SRel X.K CA W' σ' H' env' o' ∧ LPost X.K CA W0 W' D (whileD (denT Φ G k) (denSs Φ G M b) m env' o'), ⟨M, W, env, obs, S, g⟩, ?_⟩
        rintro m σ1 H1 ⟨W1, env1, o1, S1, g1⟩
        cases m with
        | zero => exact g1.elim
        | succ m =>
          refine LS.bnd (rel := relT) S1 g1 fun x o2 v W2 H2 l2 S2 r2 g2 => ?_
          have r2 : v = x := r2
          subst r2
          cases v with
          | false => exact g2 _ W2 H2 .refl S2
          | true =>
            rw [if_pos rfl]
            refine ⟨_, fun σ' H' q => ⟨m, Nat.lt_succ_self m, q⟩, W2, env1, o2, S2, ?_⟩
            simp only [if_true] at g2
            cases hb : denSs Φ G M b env1 o2 with
            | nx e o => rw [hb] at g2; exact fun σ' W' H' l S' => ⟨W', e, o, S', LPost.mono l g2⟩
            | ct e o => rw [hb] at g2; exact fun σ' W' H' l S' => ⟨W', e, o, S', LPost.mono l g2⟩
            | bk e o => rw [hb] at g2; exact g2
            | rt d o => rw [hb] at g2; exact g2
            | ex cc a e o => rw [hb] at g2; exact g2
            | bad => rw [hb] at g2; exact g2
    | _ => simp [chkS] at h
  | .for_ tg it b, X, sc, W0, st, c, tk, h => by
    cases st with
    | For tg' it' b' oe pos =>
      cases oe with
      | cons _ _ => simp [chkS] at h
      | nil =>
        simp only [chkS, Bool.and_eq_true] at h
        obtain ⟨⟨h1, h2⟩, h3⟩ := h
        obtain ⟨hg, _⟩ := pg_of c.c.hN c.c.nd c.c.calm c.loc h2
        refine PS.weak (ps_for c.own c.c.calm (soundI it c.c tk h1) hg (soundSs b c tk h3) (folded_ok (chkI_set h1))) ?_
        rintro D σ H ⟨W, env, obs, S, g⟩
        refine LS.bnd (rel := relI X.K CA) S g fun ds o1 J W1 H1 l1 S1 wk g1 => ?_
        refine ⟨fun i m σ' H' => m = ds.length - i ∧ ∃ W' env' o', W1.leS W' ∧ SRel X.K CA W' σ' H' env' o' ∧ LPost X.K CA W0 W' D (forD tg (denSs Φ G M b) (ds.drop i) env' o'), ⟨ds.length, by simp, W1, env, o1, .refl, S1, by rw [List.drop_zero]; exact g1⟩, ?_⟩
        rintro i m σ2 H2 ⟨rfl, W2, env2, o2, l2, S2, g2⟩
        cases hd : ds.drop i with
        | nil =>
          rw [hd] at g2
          exact .inl ⟨wk.stop i W2 σ2 H2 env2 o2 l2 S2 (List.drop_eq_nil_iff.mp hd), g2 _ W2 H2 .refl S2⟩
        | cons d rest =>
          rw [hd] at g2
          have hil : i < ds.length := by
            apply Nat.lt_of_not_le
            intro q
            rw [List.drop_eq_nil_of_le q] at hd; cases hd
          have hdi : ds[i]? = some d := by
            have := List.getElem?_drop (xs := ds) (i := i) (j := 0)
            rw [hd] at this; simpa using this.symm
          have hrest : ds.drop (i + 1) = rest := by
            have := List.drop_drop (i := 1) (j := i) (l := ds)
            rw [hd] at this; simpa [Nat.add_comm] using this.symm
          obtain ⟨hgo, hy⟩ := wk.go i d W2 σ2 H2 env2 o2 l2 S2 hdi
          refine .inr ⟨hgo, _, fun σ' H' q => ⟨ds.length - (i + 1), by omega, q⟩, fun v H3 y3 => ?_⟩
          obtain ⟨W3, l3, S3, rv⟩ := hy v H3 y3
          unfold forD at g2
          cases es : setTg tg d env2 with
          | none => simp only [es] at g2; exact g2.elim
          | some env3 =>
            simp only [es] at g2
            have g3 := LPost.mono l3.s g2
            refine tg_of S3 rv es fun σ' S4 _ => ⟨W3, env3, o2, S4, ?_⟩
            cases hb : denSs Φ G M b env3 o2 with
            | nx e o => rw [hb] at g3; exact fun σ' W' H' l S' => ⟨rfl, W', e, o, l2.trans (l3.s.trans l), S', by rw [hrest]; exact LPost.mono l g3⟩
            | ct e o => rw [hb] at g3; exact fun σ' W' H' l S' => ⟨rfl, W', e, o, l2.trans (l3.s.trans l), S', by rw [hrest]; exact LPost.mono l g3⟩
            | bk e o => rw [hb] at g3; exact g3
            | rt d o => rw [hb] at g3; exact g3
            | ex cc a e o => rw [hb] at g3; exact g3
            | bad => rw [hb] at g3; exact g3
    | _ => simp [chkS] at h
  | .exp e, X, sc, W0, st, c, tk, h => by
    cases st with
    | Expr e' pos =>
      simp only [chkS, Bool.and_eq_true, Bool.not_eq_true'] at h
      refine PS.weak (ps_expr (soundE e c.c tk h.1) (sw_none h.2)) ?_
      rintro D σ H ⟨W, env, obs, S, g⟩
      exact LS.bnd (rel := relE X.K) S g fun a o1 v W1 H1 l1 S1 r1 g1 => g1 _ W1 H1 .refl S1
    | _ => simp [chkS] at h
  | .pass, X, sc, W0, st, c, tk, h => by
    cases st with
    | Pass pos => exact PS.weak ps_pass fun D σ H ⟨W, env, obs, S, g⟩ => g σ W H .refl S
    | _ => simp [chkS] at h
  | .brk, X, sc, W0, st, c, tk, h => by
    cases st with
    | Break pos => exact PS.weak ps_break fun D σ H ⟨W, env, obs, S, g⟩ => g σ W H .refl S
    | _ => simp [chkS] at h
  | .cnt, X, sc, W0, st, c, tk, h => by
    cases st with
    | Continue pos => exact PS.weak ps_continue fun D σ H ⟨W, env, obs, S, g⟩ => g σ W H .refl S
    | _ => simp [chkS] at h
theorem soundSs : ∀ (m : Ss) {X : Cx} {sc : Scope} {W0 : WX} {st : List Stmt}, CtxS CA fs bs N G Φ n sc X → Takes X W0 → chkSs fs bs N sc m st = true → PSs X st (LS X.K CA W0 (denSs Φ G M m))
  | .nil, X, sc, W0, st, c, tk, h => by
    cases st with
    | nil => exact PSs.weak pss_nil fun D σ H ⟨W, env, obs, S, g⟩ => g σ W H .refl S
    | cons _ _ => simp [chkSs] at h
  | .cons s r, X, sc, W0, st, c, tk, h => by
    cases st with
    | nil => simp [chkSs] at h
    | cons s' r' =>
      simp only [chkSs, Bool.and_eq_true] at h
      refine PSs.weak (pss_cons (soundS s c tk h.1) (soundSs r c tk h.2)) ?_
      rintro D σ H ⟨W, env, obs, S, g⟩
      refine ⟨W, env, obs, S, ?_⟩
      have g : LPost X.K CA W0 W D ((denS Φ G M s env obs).seq fun env o => denSs Φ G M r env o) := g
      cases hs : denS Φ G M s env obs with
      | nx e o => rw [hs] at g; exact fun σ' W' H' l S' => ⟨W', e, o, S', LPost.mono l g⟩
      | ct e o => rw [hs] at g; exact g
      | bk e o => rw [hs] at g; exact g
      | rt d o => rw [hs] at g; exact g
      | ex cc a e o => rw [hs] at g; exact g
      | bad => rw [hs] at g; exact g
  | .frz i r, X, sc, W0, st, c, tk, h => by
    refine PSs.weak (soundSs r c tk (by simpa [chkSs] using h)) ?_
    rintro D σ H ⟨W, env, obs, S, g⟩
    have g : LPost X.K CA W0 W D (match env[i]? with
      | some (.ol ds) => denSs Φ G M r (env.set i (.v (.lst ds))) obs
      | _ => denSs Φ G M r env obs) := g
    cases hi : env[i]? with
    | none => rw [hi] at g; exact ⟨W, env, obs, S, g⟩
    | some s =>
      rw [hi] at g
      cases s with
      | ol ds =>
        obtain ⟨W2, l2, S2⟩ := S.freeze hi
        exact ⟨W2, _, obs, S2, LPost.mono l2 g⟩
      | _ => exact ⟨W, env, obs, S, g⟩
end
end
end Mp

set_option Elab.async false
set_option linter.all false
set_option maxRecDepth 100000
set_option maxHeartbeats 4000000
/-! Defs and programs; the end of a law. -/
namespace Mp
open PySem PySem.Spec PyProof.Rows L2

theorem reps_start {K : PySem.W.Frag} {CA : Str → Option Addr} {W : Wd} {H : Hp} {obs : Obs} {N : List Str} {vs : List V} {ds : List D} (h : HRel K CA W H obs) (r : W.reps K vs ds) (hl : vs.length ≤ N.length) :
    SRel K CA W (L2.start N vs) H (ds.map .v ++ List.replicate (N.length - ds.length) .un) obs := by
  have hlen := r.length
  refine ⟨h, by simp [L2.start, hlen], fun i s e => ?_⟩
  by_cases hi : i < ds.length
  · rw [List.getElem?_append_left (by simpa using hi), List.getElem?_map] at e
    cases q : ds[i]? with
    | none => rw [q] at e; cases e
    | some d =>
      rw [q] at e
      cases e
      obtain ⟨v, hv, rv⟩ := r.get q
      refine ⟨v, ?_, rv⟩
      unfold L2.start
      rw [List.getElem?_append_left (by simp [hlen]; exact hi), List.getElem?_map, hv]
      rfl
  · rw [List.getElem?_append_right (by simpa using hi)] at e
    obtain ⟨hlt, e'⟩ := List.getElem?_eq_some_iff.mp e
    rw [List.getElem_replicate] at e'
    subst e'
    trivial
/-- a def of the text keeps the promise of its meaning -/
theorem fn_sound {P : Program} {w : World} {K : PySem.W.Frag} {mg : Str → Option Value} {base : Heap} {CA : Str → Option Addr} {fs bs N ps : List Str} {G : Str → Option D} {Φ : Str → List D → Obs → R D} {n M : Nat} {x qual : Str} {st : Stmt} {f : Addr} {fd : FuncData} {e : Fn}
    (F : Fun K x qual st f fd) (S : FnScope N ps (defScope st)) (hps : ps.length = e.ps) (hN : N.length = e.sl) (hle : e.ps ≤ e.sl) (h : chkSs fs bs N (defScope st) e.body (defBody st) = true) (mo : Mo K CA P w mg base fs bs G Φ n) :
    FnOk P w K mg base (L2.CX P w) (n + 1) f fd ps (spC K CA (runFn e Φ G M)) := by
  refine F.okX S (fun vs H Q E hsp => ?_) (fun cdv A outer s H vs Q E hr hsp => ?_)
  · obtain ⟨W, obs, ds, HR, nl, r, g⟩ := hsp
    unfold runFn at g
    by_cases hl : ds.length = e.ps
    · rw [Reps.length r, hl, hps]
    · rw [if_neg hl] at g; exact g.elim
  · obtain ⟨W, obs, ds, HR, nl, r, g⟩ := hsp
    have c : CtxS CA fs bs N G Φ n (defScope st) (cxOf (L2.CX P w) P w K mg base N qual (defScope st) f cdv A outer s H E) :=
      ⟨⟨rfl, S.nd, rfl, rfl, hr, mo⟩, passes_of rfl, fun _ => rfl, S.kind, rfl, rfl⟩
    have tk : Takes (cxOf (L2.CX P w) P w K mg base N qual (defScope st) f cdv A outer s H E) (fun cls d _ H => E cls d H) := takes_of rfl rfl rfl rfl
    refine ⟨_, soundSs (M := M) e.body c tk h, ?_⟩
    unfold runFn at g
    by_cases hl : ds.length = e.ps
    · rw [if_pos hl] at g
      have hN' : N.length - ds.length = e.sl - e.ps := by rw [hN, hl]
      have S0 := reps_start (N := N) HR r (by rw [r.length, hl, hN]; exact hle)
      rw [hN'] at S0
      refine ⟨W, _, obs, S0, ?_⟩
      cases hd : denSs Φ G M e.body (ds.map .v ++ List.replicate (e.sl - e.ps) .un) obs with
      | nx env o => rw [hd] at g; exact fun σ' W' H' l S' => g .non W' H' l S'.h .non
      | rt d o => rw [hd] at g; exact fun v W' H' l S' rv => g v W' H' l S' rv
      | bk env o => rw [hd] at g; exact g.elim
      | ct env o => rw [hd] at g; exact g.elim
      | ex cc a env o => rw [hd] at g; exact fun cls dd σ' W' H' l S' x => g cls dd W' H' l S'.h x
      | bad => rw [hd] at g; exact g.elim
    · rw [if_neg hl] at g; exact g.elim

theorem spC_bad {P : Program} {w : World} {K : PySem.W.Frag} {mg : Str → Option Value} {base : Heap} {CX : CXT} {CA : Str → Option Addr} {n : Nat} {f : Addr} {fd : FuncData} {ps : List Str} {g : List D → Obs → R D} (hg : ∀ ds o, g ds o = .bad) : FnOk P w K mg base CX n f fd ps (spC K CA g) :=
  ⟨fun vs H Q E ⟨W, obs, ds, _, _, _, h⟩ => by rw [hg] at h; exact h.elim, fun A outer s H args us vs Q E _ _ _ _ ⟨W, obs, ds, _, _, _, h⟩ => by rw [hg] at h; exact h.elim⟩
/-- a def as the top has left it -/
structure DefOk (K : PySem.W.Frag) (mg : Str → Option Value) (fs bs : List Str) (x : Str) (e : Fn) : Prop where
  ex : ∃ st f fd N ps, Fun K x x st f fd ∧ FnScope N ps (defScope st) ∧ ps.length = e.ps ∧ N.length = e.sl ∧ e.ps ≤ e.sl ∧ chkSs fs bs N (defScope st) e.body (defBody st) = true ∧ mg x = some (.ref f) ∧ Binds K fd ps []
/-- a def whose meaning is told, and shown by hand -/
structure XtOk (P : Program) (w : World) (K : PySem.W.Frag) (mg : Str → Option Value) (base : Heap) (CA : Str → Option Addr) (x : Str) (k : Nat) (g : List D → Obs → R D) : Prop where
  ex : ∃ f fd ps, FnOk P w K mg base (L2.CX P w) k f fd ps (spC K CA g) ∧ PySem.W.keepIn K (.ref f) = true ∧ mg x = some (.ref f) ∧ Binds K fd ps []
theorem pg_sound {P : Program} {w : World} {K : PySem.W.Frag} {mg : Str → Option Value} {base : Heap} {CA : Str → Option Addr} {fs bs : List Str} {Q : Pg} {M : Nat}
    (hcl : ∀ c, clsNm c ∈ bs → ClsOk P w K mg base CA c) (hb : ∀ x ∈ bs, mg x = none) (hg : ∀ x d, Q.gl.lookup x = some d → ∃ u v, mg x = some u ∧ RelV v u ∧ Rep K (fun _ => none) [] v d)
    (hd : ∀ x e, Q.fn.lookup x = some e → DefOk K mg fs bs x e) (hx : ∀ x e, Q.xt.lookup x = some e → XtOk P w K mg base CA x e.1 e.2)
    (hf : ∀ f ∈ fs, (∃ e, Q.fn.lookup f = some e) ∨ ∃ e, Q.xt.lookup f = some e) : ∀ n, Mo K CA P w mg base fs bs (fun x => Q.gl.lookup x) (Q.call M n) (n + 2) := by
  intro n
  induction n with
  | zero =>
    refine ⟨hb, hg, fun f hm => ?_, hcl, Nat.le_refl _⟩
    rcases hf f hm with ⟨e, he⟩ | ⟨e, he⟩
    · obtain ⟨st, a, fd, N, ps, F, S, _, _, _, _, hmg, hbd⟩ := (hd f e he).ex
      exact ⟨a, fd, ps, spC_bad fun _ _ => rfl, hmg, F.kp, hbd⟩
    · obtain ⟨a, fd, ps, _, hk, hmg, hbd⟩ := (hx f e he).ex
      exact ⟨a, fd, ps, spC_bad fun _ _ => rfl, hmg, hk, hbd⟩
  | succ n ih =>
    refine ⟨hb, hg, fun f hm => ?_, hcl, Nat.le_add_left 2 (n + 1)⟩
    cases hfn : Q.fn.lookup f with
    | some e =>
      obtain ⟨st, a, fd, N, ps, F, S, h1, h2, h3, h4, hmg, hbd⟩ := (hd f e hfn).ex
      refine ⟨a, fd, ps, ?_, hmg, F.kp, hbd⟩
      have := fn_sound (M := M) F S h1 h2 h3 h4 ih
      have e2 : Q.call M (n + 1) f = runFn e (Q.call M n) (fun x => Q.gl.lookup x) M := by
        funext ds o
        show (match Q.fn.lookup f with
          | some e => runFn e (Q.call M n) (fun x => Q.gl.lookup x) M ds o
          | none => _) = _
        rw [hfn]
      rw [e2]; exact this
    | none =>
      rcases hf f hm with ⟨e, he⟩ | ⟨e, he⟩
      · rw [hfn] at he; cases he
      · obtain ⟨a, fd, ps, F, hk, hmg, hbd⟩ := (hx f e he).ex
        refine ⟨a, fd, ps, ?_, hmg, hk, hbd⟩
        have e2 : Q.call M (n + 1) f = fun ds o => if e.1 ≤ n + 1 then e.2 ds o else .bad := by
          funext ds o
          show (match Q.fn.lookup f with
            | some e => runFn e (Q.call M n) (fun x => Q.gl.lookup x) M ds o
            | none => (match Q.xt.lookup f with
              | some g => if g.1 ≤ n + 1 then g.2 ds o else .bad
              | none => .bad)) = _
          rw [hfn, he]
        rw [e2]
        by_cases hk2 : e.1 ≤ n + 1
        · have e3 : (fun ds o => if e.1 ≤ n + 1 then e.2 ds o else .bad) = e.2 := by
            funext ds o; rw [if_pos hk2]
          rw [e3]; exact F.mono (Nat.le_trans hk2 (Nat.le_add_right (n + 1) 2))
        · exact spC_bad fun ds o => if_neg hk2
/-- the law's def, of a script -/
theorem law_sp {K : PySem.W.Frag} {CA : Str → Option Addr} {g : List D → Obs → R D} {H : Hp} {a : Addr} {ns : List Int} {E : XK} (ho : Only H) (hS : SqL K H a (ns.map V.int)) (h : ∃ o, g [.loc ns] [] = .ok (.bl true) o) :
    spC K CA g [.ref a] H (fun v _ => v = .bl true) E := by
  obtain ⟨o, h⟩ := h
  have hF : ∀ p u, (⟨fun p => if p = a then (H a).map Role.fro else none, []⟩ : Wd).ρ p = some u → p = a ∧ ∃ x, H a = some x ∧ u = .fro x := fun p u e => by
    have e' : (if p = a then (H a).map Role.fro else none) = some u := e
    split at e'
    · rename_i hp
      cases q : H a with
      | none => rw [q] at e'; cases e'
      | some x => rw [q] at e'; exact ⟨hp, x, rfl, (Option.some.inj e').symm⟩
    · cases e'
  refine ⟨⟨fun p => if p = a then (H a).map Role.fro else none, []⟩, [], [.loc ns], ⟨fun p u e => ?_, fun p u e => ?_, fun p u e => ?_, rfl, fun n ob e => by simp at e⟩, fun p u e => ?_, .cons (.loc ?_) .nil, ?_⟩
  · obtain ⟨rfl, x, hx, z⟩ := hF p _ e
    cases z; exact hx
  · obtain ⟨_, x, _, z⟩ := hF p _ e
    cases z
  · obtain ⟨rfl, x, hx, z⟩ := hF p _ e
    exact ⟨x, hx⟩
  · obtain ⟨_, x, _, z⟩ := hF p _ e
    subst z; rfl
  · have hA : ∀ u, H a = some u → (⟨fun p => if p = a then (H a).map Role.fro else none, []⟩ : Wd).F a = some u := fun u e => by
      rw [Wd.F_of]
      show (if a = a then (H a).map Role.fro else none) = _
      rw [if_pos rfl, e]; rfl
    rcases hS with (q | ⟨u, q⟩) | q
    · exact .inl (.inl (hA _ q))
    · exact .inl (.inr ⟨u, hA _ q⟩)
    · exact .inr q
  · rw [h]
    intro v W' H' _ _ r
    exact r.to_bl
end Mp

set_option Elab.async false
set_option linter.all false
set_option maxRecDepth 100000
set_option maxHeartbeats 4000000
/-! From what the top has written to the law. -/
namespace Mp
open PySem PySem.Spec PyProof.Rows L2

/-- a def as the top has written it -/
structure DFact (K : PySem.W.Frag) (x : Str) (st : Stmt) (f : Addr) (kV doc pm : Value) (an : Option Addr) (cdv ct : Value) : Prop where
  ns : PySem.W.nsIn K mainGlobals x = some (some (.ref f))
  lk : ∃ oc od osl, K.lookup f = some ⟨oc, od, .func (PySem.W.fnOf x x (defArgs st) (defBody st) (defScope st) .none kV doc pm an cdv ct), osl⟩
  cd : PySem.W.codeIn K cdv x = true
  kp : PySem.W.keepIn K (.ref f) = true
/-- it binds so many arguments -/
def BindN (x : Str) (st : Stmt) (ps : List Str) : Prop := ∀ (kV doc pm : Value) (an : Option Addr) (cdv ct : Value) (us : List Value), us.length = ps.length → bindArgs (PySem.W.fnOf x x (defArgs st) (defBody st) (defScope st) .none kV doc pm an cdv ct) ⟨us, []⟩ = pure (ps.zip us)
/-- a def that is known, whatever the rest of it is -/
def Known (K : PySem.W.Frag) (x : Str) (st : Stmt) : Prop := ∃ f kV doc pm an cdv ct, DFact K x st f kV doc pm an cdv ct
theorem known {K : PySem.W.Frag} {x : Str} {st : Stmt} {f : Addr} {oc : Value} {od an : Option Addr} {osl : Array (Option Value)} {kV doc pm cdv ct : Value} (a : PySem.W.nsIn K mainGlobals x = some (some (.ref f)))
    (l : K.lookup f = some ⟨oc, od, .func (PySem.W.fnOf x x (defArgs st) (defBody st) (defScope st) .none kV doc pm an cdv ct), osl⟩) (c : PySem.W.codeIn K cdv x = true) (k : PySem.W.keepIn K (.ref f) = true) : Known K x st := ⟨f, kV, doc, pm, an, cdv, ct, a, ⟨_, _, _, l⟩, c, k⟩
/-- the text's side of a def -/
structure DTxt (fs bs : List Str) (x : Str) (st : Stmt) (N ps : List Str) (e : Fn) : Prop where
  S : FnScope N ps (defScope st)
  h1 : ps.length = e.ps
  h2 : N.length = e.sl
  h3 : e.ps ≤ e.sl
  h4 : chkSs fs bs N (defScope st) e.body (defBody st) = true
  b : BindN x st ps
section
variable {K : PySem.W.Frag} {h : Heap} {mg : Str → Option Value} {fs bs : List Str}
theorem Known.ok {x : Str} {st : Stmt} {N ps : List Str} {e : Fn} (X : K.In h) (G : h.Ns mainGlobals mg) (D : Known K x st) (T : DTxt fs bs x st N ps e) : DefOk K mg fs bs x e := by
  obtain ⟨f, kV, doc, pm, an, cdv, ct, a, ⟨oc, od, osl, l⟩, c, k⟩ := D
  have F := fun_mk (st := st) l c k
  exact ⟨st, f, _, N, ps, F, T.S, T.h1, T.h2, T.h3, T.h4, PySem.W.mg_of X G a, F.binds T.b⟩
/-- a list of defs, by their names -/
def DefsOk (K : PySem.W.Frag) (mg : Str → Option Value) (fs bs : List Str) : List (Str × Fn) → Prop
  | [] => True
  | (x, e) :: r => DefOk K mg fs bs x e ∧ DefsOk K mg fs bs r
theorem DefsOk.get : ∀ {l : List (Str × Fn)}, DefsOk K mg fs bs l → ∀ x e, l.lookup x = some e → DefOk K mg fs bs x e
  | [], _, x, e, h => by cases h
  | (y, d) :: r, q, x, e, h => by
    rw [List.lookup_cons] at h
    by_cases hy : x = y
    · subst hy
      simp at h; subst h; exact q.1
    · have : (x == y) = false := by simpa using hy
      rw [this] at h
      exact q.2.get x e h
/-- constants that are numbers or texts -/
def GlOk (K : PySem.W.Frag) (mg : Str → Option Value) : List (Str × D) → Prop
  | [] => True
  | (x, d) :: r => (∃ u v, mg x = some u ∧ RelV v u ∧ Rep K (fun _ => none) [] v d) ∧ GlOk K mg r
theorem GlOk.get : ∀ {l : List (Str × D)}, GlOk K mg l → ∀ x d, l.lookup x = some d → ∃ u v, mg x = some u ∧ RelV v u ∧ Rep K (fun _ => none) [] v d
  | [], _, x, e, h => by cases h
  | (y, d) :: r, q, x, e, h => by
    rw [List.lookup_cons] at h
    by_cases hy : x = y
    · subst hy
      simp at h; subst h; exact q.1
    · have : (x == y) = false := by simpa using hy
      rw [this] at h
      exact q.2.get x e h
theorem gl_int {x : Str} {i : Int} {t : Tok} (X : K.In h) (G : h.Ns mainGlobals mg) (a : PySem.W.nsIn K mainGlobals x = some (some (.int i t))) : ∃ u v, mg x = some u ∧ RelV v u ∧ Rep K (fun _ => none) [] v (.int i) :=
  ⟨_, .int i, PySem.W.mg_of X G a, ⟨t, rfl⟩, .int i⟩
theorem gl_str {x : Str} {i : Str} {t : Tok} (X : K.In h) (G : h.Ns mainGlobals mg) (a : PySem.W.nsIn K mainGlobals x = some (some (.str i t))) : ∃ u v, mg x = some u ∧ RelV v u ∧ Rep K (fun _ => none) [] v (.str i) :=
  ⟨_, .str i, PySem.W.mg_of X G a, ⟨t, rfl⟩, .str i⟩
end
/-! constants of the text, tuples of them too -/
mutual
inductive GV (K : PySem.W.Frag) : Value → V → D → Prop
  | non : GV K .none .non .non
  | bl (b : Bool) : GV K (.bool b) (.bl b) (.bl b)
  | int (i : Int) (t : Tok) : GV K (.int i t) (.int i) (.int i)
  | str (x : Str) (t : Tok) : GV K (.str x t) (.str x) (.str x)
  | tup {p : Addr} {od : Option Addr} {its : Array Value} {n : Nat} {sl : Array (Option Value)} {vs : List V} {ds : List D} (l : K.lookup p = some ⟨.type "tuple", od, .seq its n, sl⟩) (z : its.size ≤ 10000) (h : GVs K its.toList vs ds) : GV K (.ref p) (.ref p) (.tup ds)
inductive GVs (K : PySem.W.Frag) : List Value → List V → List D → Prop
  | nil : GVs K [] [] []
  | cons {u : Value} {v : V} {d : D} {us : List Value} {vs : List V} {ds : List D} : GV K u v d → GVs K us vs ds → GVs K (u :: us) (v :: vs) (d :: ds)
end
mutual
theorem GV.rel {K : PySem.W.Frag} : ∀ {u : Value} {v : V} {d : D}, GV K u v d → RelV v u ∧ Rep K (fun _ => none) [] v d
  | _, _, _, .non => ⟨rfl, .non⟩
  | _, _, _, .bl b => ⟨rfl, .bl b⟩
  | _, _, _, .int i t => ⟨⟨t, rfl⟩, .int i⟩
  | _, _, _, .str x t => ⟨⟨t, rfl⟩, .str x⟩
  | _, _, _, .tup l z h => ⟨rfl, .tup (.inr ⟨_, _, _, l, rfl, rfl, Nat.le_trans z (by decide), (GVs.rel h).1⟩) (GVs.rel h).2⟩
theorem GVs.rel {K : PySem.W.Frag} : ∀ {u : List Value} {v : List V} {d : List D}, GVs K u v d → Vals v u ∧ Reps K (fun _ => none) [] v d
  | _, _, _, .nil => ⟨.nil, .nil⟩
  | _, _, _, .cons a b => ⟨.cons (GV.rel a).1 (GVs.rel b).1, .cons (GV.rel a).2 (GVs.rel b).2⟩
end
/-- a constant as the top has left it -/
def GC (K : PySem.W.Frag) (x : Str) (d : D) : Prop := ∃ u v, PySem.W.nsIn K mainGlobals x = some (some u) ∧ GV K u v d
theorem gc {K : PySem.W.Frag} {x : Str} {d : D} {u : Value} {v : V} (a : PySem.W.nsIn K mainGlobals x = some (some u)) (g : GV K u v d) : GC K x d := ⟨u, v, a, g⟩
section
variable {K : PySem.W.Frag} {h : Heap} {mg : Str → Option Value} {fs bs : List Str}
theorem GC.ok {x : Str} {d : D} (X : K.In h) (G : h.Ns mainGlobals mg) (a : GC K x d) : ∃ u v, mg x = some u ∧ RelV v u ∧ Rep K (fun _ => none) [] v d := by
  obtain ⟨u, v, a, g⟩ := a
  exact ⟨u, v, PySem.W.mg_of X G a, g.rel.1, g.rel.2⟩
def BsOk (mg : Str → Option Value) : List Str → Prop
  | [] => True
  | x :: r => mg x = none ∧ BsOk mg r
theorem BsOk.get : ∀ {l : List Str}, BsOk mg l → ∀ x ∈ l, mg x = none
  | [], _, _, h => by cases h
  | y :: r, q, x, h => by
    rcases List.mem_cons.mp h with rfl | h
    · exact q.1
    · exact q.2.get x h
/-- where the top has left a class -/
def CAof (K : PySem.W.Frag) (c : Str) : Option Addr := match PySem.W.nsIn K mainGlobals c with
  | some (some (.ref C)) => some C
  | _ => none
/-- an exception class as the top has left it -/
def ClK (P : Program) (K : PySem.W.Frag) (c : Str) : Prop := ∃ C fI cc cda st msg, PySem.W.nsIn K mainGlobals c = some (some (.ref C)) ∧ BadT st msg ∧ BadC P K st C fI cc cda
theorem clk {P : Program} {K : PySem.W.Frag} {c : Str} {st : Stmt} {msg : Str} (T : BadT st msg) {C fI cc cda : Addr} {nm q qual file : Str} {N : Addr} {bs bm : List Value} {sn : List Str} {sub : List Value} {ab : Bool} {col : Option Bool} {dd : Option Addr} {k0 k1 k2 k3 k5 : Option Value}
    {oc kV doc pm ct ccl cl : Value} {od an cdd cld : Option Addr} {osl ccs csl : Array (Option Value)} {vs : Array Value} {tk : Tok}
    (a : PySem.W.nsIn K mainGlobals c = some (some (.ref C)))
    (xL : K.lookup C = some (excClassObj nm q C N bs bm true sn sub ab col dd k0 k1 k2 k3 k5 "ValueError.__new__")) (rv : PySem.HandSPX.refsVE bm = true)
    (sa : PySem.W.findIn K (.ref C) "__setattr__" = some (some (.builtin "object.__setattr__"))) (eb : PySem.W.subIn K (.ref C) (.type "BaseException") = some true) (ty : PySem.W.typeIn K (.ref C) = some (.type "type")) (kp : PySem.W.keepIn K (.ref C) = true)
    (ini : PySem.W.findIn K (.ref C) "__init__" = some (some (.ref fI))) (tf : PySem.W.typeIn K (.ref fI) = some (.type "function"))
    (lf : K.lookup fI = some ⟨oc, od, .func (PySem.W.ksFn "__init__" qual (defArgs st) (defBody st) (defScope st) .none kV doc pm an (.ref cda) ct cc), osl⟩) (cf : PySem.W.codeIn K (.ref cda) qual = true)
    (lc : K.lookup cda = some ⟨ccl, cdd, .fields vs, ccs⟩) (v2 : vs[2]? = some (.str file tk)) (fl : ((P.main.file : Str) == file) = true) (ce : K.lookup cc = some ⟨cl, cld, .cell (some (.ref C)), csl⟩)
    (mr : PySem.W.mroIn K C (.ref C) = some true) (su : PySem.W.ks_superIn K C C "__init__" = some (some (.builtin "ValueError.__init__"))) (ve : PySem.W.subIn K (.ref C) (.type "ValueError") = some true)
    (s1 : PySem.W.nsIn K mainGlobals "super" = some none) (s2 : PySem.W.nsIn K mainGlobals "str" = some none) (tp : PySem.W.nsIn K cStatics "thirdparty.any" = some none) (pl : PySem.W.findIn K (.ref C) "place" = some none)
    (ga : PySem.W.findIn K (.ref C) "__getattribute__" = some (some (.builtin "BaseException.__getattribute__"))) (gg : PySem.W.findIn K (.ref C) "__getattr__" = some none) (hd : PySem.W.hasDictIn K C = true) (ex : PySem.W.exmOne K (.ref C) (.ref C) = some true)
    (top : (P.main.scope.names.lookup ("super" : Str)).isSome = false) : ClK P K c :=
  ⟨C, fI, cc, cda, st, msg, a, T, ⟨⟨⟨nm, q, N, bs, bm, sn, sub, ab, col, dd, k0, k1, k2, k3, k5, xL, rv⟩, sa, eb, ty, kp⟩, ini, tf, ⟨oc, od, osl, qual, kV, doc, pm, an, ct, lf, cf⟩, ⟨ccl, cdd, vs, ccs, file, tk, lc, v2, fl⟩, ⟨cl, cld, csl, ce⟩,
    ⟨_, by unfold PySem.W.clsIn; rw [xL]⟩, mr, su, ve, s1, s2, tp, pl, ⟨ga, gg, eb, hd⟩, ex, top⟩⟩
def ClsL (P : Program) (K : PySem.W.Frag) : List Str → Prop
  | [] => True
  | c :: r => ClK P K c ∧ ClsL P K r
theorem ClsL.get {P : Program} : ∀ {l : List Str}, ClsL P K l → ∀ c ∈ l, ClK P K c
  | [], _, _, h => by cases h
  | y :: r, q, x, h => by
    rcases List.mem_cons.mp h with rfl | h
    · exact q.1
    · exact q.2.get x h
theorem ClK.ok {P : Program} {w : World} {base : Heap} {c : Str} (X : K.In h) (G : h.Ns mainGlobals mg) (q : ClK P K c) : ClsOk P w K mg base (CAof K) c := by
  obtain ⟨C, fI, cc, cda, st, msg, hn, T, B⟩ := q
  obtain ⟨fd, F, b⟩ := init_ok (w := w) (mg := mg) (base := base) T B (PySem.W.mg_none_of X G B.s1) (PySem.W.mg_none_of X G B.s2)
  exact ⟨C, fI, fd, by unfold CAof; rw [hn], PySem.W.mg_of X G hn, B.o, B.ini, B.typ, F, b, B.xf, B.pl, B.ex⟩
theorem clsNm_inj {a b : Str} (h : clsNm a = clsNm b) : a = b := by
  have h1 : (clsNm a).cps = (clsNm b).cps := by rw [h]
  have h2 : (("!" : Str).cps ++ a.cps) = (("!" : Str).cps ++ b.cps) := h1
  have h3 : a.cps = b.cps := by
    have := congrArg Array.toList h2
    simp only [Array.toList_append] at this
    have := List.append_cancel_left this
    exact Array.toList_inj.mp this
  cases a; cases b; exact congrArg Str.mk h3
/-- the names of classes among the built-in ones are those of cs -/
def bsCs (bs cs : List Str) : Bool := bs.all fun b => !(b.cps[0]? == some 33) || cs.any fun c => clsNm c == b
theorem bsCs_ok {bs cs : List Str} (h : bsCs bs cs = true) {c : Str} (hc : clsNm c ∈ bs) : c ∈ cs := by
  have h1 := List.all_eq_true.mp h _ hc
  have h2 : ((clsNm c).cps[0]? == some 33) = true := by
    show ((("!" : Str).cps ++ c.cps)[0]? == some 33) = true
    rw [Array.getElem?_append_left (by decide)]
    decide
  rw [h2] at h1
  simp only [Bool.not_true, Bool.false_or, List.any_eq_true, beq_iff_eq] at h1
  obtain ⟨c', hm, e⟩ := h1
  rw [← clsNm_inj e]; exact hm
/-- what the program of a law needs, as its top has left it -/
structure Ready (P : Program) (K : PySem.W.Frag) (mg : Str → Option Value) (fs bs cs : List Str) (Q : Pg) : Prop where
  cl : ClsL P K cs
  bi : BsOk mg bs
  gl : GlOk K mg Q.gl
  fn : DefsOk K mg fs bs Q.fn
end
theorem mo_of {P : Program} {w : World} {K : PySem.W.Frag} {mg : Str → Option Value} {base h : Heap} {fs bs cs : List Str} {Q : Pg} {M : Nat} (X : K.In h) (Gn : h.Ns mainGlobals mg) (R : Ready P K mg fs bs cs Q) (hcs : bsCs bs cs = true) (hx : Q.xt = []) (hf : fs.all fun f => (Q.fn.lookup f).isSome) :
    ∀ n, Mo K (CAof K) P w mg base fs bs (fun x => Q.gl.lookup x) (Q.call M n) (n + 2) :=
  pg_sound (fun c hc => (R.cl.get c (bsCs_ok hcs hc)).ok X Gn) R.bi.get (R.gl.get) R.fn.get (fun x e h => by rw [hx] at h; cases h) fun f hm => by
    have := List.all_eq_true.mp hf f hm
    cases q : Q.fn.lookup f with
    | none => rw [q] at this; cases this
    | some e => exact .inl ⟨e, rfl⟩
/-- what is promised of the law's def -/
def spLaw (K : PySem.W.Frag) : Sp := fun vs H Q E => ∃ (a : Addr) (ns : List Int), vs = [.ref a] ∧ Only H ∧ SqL K H a (ns.map V.int) ∧ ns.length ≤ 63 ∧ ∀ H', Q (.bl true) H'
theorem cx_none {P : Program} {w : World} (H : Hp) (s : Shared) (e : Value) (s' : Shared) : L2.CX P w [] H s (fun _ _ _ => False) e s' → False := by
  rintro ⟨_, _, _, _, _, _, _, _, _, _, _, _, h⟩
  exact h
theorem law_walk {l : PySem.W.OpenLaw} {q : Program} {loose : List Str} {XP : (Str → Option Value) → Heap → Prop} {YP : World → Heap → Prop} {d : DefRec} {K : Params → PySem.W.Frag} {fs bs cs N : List Str} {Q : Pg} {n M : Nat} {st : Stmt} {e : Fn}
    (hn : l.most = some 63) (hdf : d.params.defaults = []) (hd : d.name = "law") (hr : Room (n + 3) callerA) (hY : ∀ (w : World) (h : Heap), YP w h → (K w.params).In h)
    (hcs : bsCs bs cs = true) (hx : Q.xt = []) (hf : fs.all fun f => (Q.fn.lookup f).isSome) (T : DTxt fs bs "law" st N ["script"] e)
    (hQ : ∀ ns : List Int, ns.length ≤ 63 → ∃ o, runFn e (Q.call M n) (fun x => Q.gl.lookup x) M [.loc ns] [] = .ok (.bl true) o)
    (F : ∀ (w : World) (mg : Str → Option Value) (h : Heap), (K w.params).In h → h.Ns mainGlobals mg → Ready l.prog (K w.params) mg fs bs cs Q ∧ Known (K w.params) "law" st) :
    PySem.W.WalkO q loose XP YP l.row.toRowW d [] (fun f vs => PySem.call f vs) := by
  refine L2.walk_of (n := 63) (k := n + 3) (x := "script") (CX := fun w => L2.CX l.prog w) (sp := fun w => spLaw (K w.params)) hn (by decide) hdf hr hY (fun w mg fa h X G hfa => ?_) (fun w H a ns hl ho hS => ⟨a, ns, rfl, ho, hS, hl, fun _ => rfl⟩) fun w => cx_none
  obtain ⟨R, f, kV, doc, pm, an, cdv, ct, a, ⟨oc, od, osl, lk⟩, c, k⟩ := F w mg h X G
  rw [hd] at hfa
  have e1 := hfa.symm.trans (PySem.W.mg_of X G a)
  cases e1
  have Fu := fun_mk (st := st) lk c k
  refine ⟨_, fun s v => .of_eq (T.b kV doc pm an cdv ct [v] rfl), fun base _ _ => ?_⟩
  have mo : Mo (K w.params) (CAof (K w.params)) l.prog w mg base fs bs (fun x => Q.gl.lookup x) (Q.call M n) (n + 2) := mo_of X G R hcs hx hf n
  refine (fn_sound (M := M) Fu T.S T.h1 T.h2 T.h3 T.h4 mo).imp fun vs H Q' E ⟨p, ns, hv, ho, hS, hl, hq⟩ => ?_
  subst hv
  obtain ⟨W, obs, ds, r1, r2, r3, g⟩ := law_sp (E := E) (CA := CAof (K w.params)) ho hS (hQ ns hl)
  refine ⟨W, obs, ds, r1, r2, r3, ?_⟩
  cases hg : runFn e (Q.call M n) (fun x => Q.gl.lookup x) M ds obs with
  | ok d o =>
    rw [hg] at g
    intro v W' H' l1 h1 rv
    have := g v W' H' l1 h1 rv
    subst this; exact hq H'
  | ex cc x o => rw [hg] at g; exact g
  | bad => rw [hg] at g; exact g
end Mp

set_option Elab.async false
set_option linter.all false
set_option maxRecDepth 100000
set_option maxHeartbeats 4000000
/-! What a run computes: rules by which simp runs a text over data, step by step. -/
namespace Mp
open PySem PySem.Spec PyProof.Rows L2

/-! ### posts -/
def R.wp {α : Type} (x : R α) (P : α → Obs → Prop) : Prop := match x with
  | .ok a o => P a o
  | _ => False
@[simp] theorem R.wp_ok {α : Type} (a : α) (o : Obs) (P : α → Obs → Prop) : (R.ok a o).wp P = P a o := (rfl)
@[simp] theorem R.wp_bad {α : Type} (P : α → Obs → Prop) : (R.bad : R α).wp P = False := (rfl)
@[simp] theorem R.wp_ex {α : Type} (c : Str) (a : D) (o : Obs) (P : α → Obs → Prop) : (R.ex c a o : R α).wp P = False := (rfl)
theorem R.wp_bind {α β : Type} {x : R α} {f : α → Obs → R β} {P : β → Obs → Prop} (h : x.wp fun a o => (f a o).wp P) : (x.bind f).wp P := by
  cases x <;> first | exact h | exact h.elim
theorem R.wp_imp {α : Type} {x : R α} {P P' : α → Obs → Prop} (h : x.wp P) (i : ∀ a o, P a o → P' a o) : x.wp P' := by
  cases x <;> first | exact i _ _ h | exact h.elim
theorem R.wp_eq {α : Type} {x : R α} {P : α → Obs → Prop} (h : x.wp P) : ∃ a o, x = .ok a o ∧ P a o := by
  cases x with
  | ok a o => exact ⟨a, o, rfl, h⟩
  | _ => exact h.elim
theorem R.wp_of {α : Type} {x : R α} {a : α} {o : Obs} {P : α → Obs → Prop} (h : x = .ok a o) (q : P a o) : x.wp P := by rw [h]; exact q
structure Pt where
  nx : Env → Obs → Prop := fun _ _ => False
  rt : D → Obs → Prop := fun _ _ => False
  bk : Env → Obs → Prop := fun _ _ => False
  ct : Env → Obs → Prop := fun _ _ => False
def RS.wp (x : RS) (P : Pt) : Prop := match x with
  | .nx e o => P.nx e o
  | .rt d o => P.rt d o
  | .bk e o => P.bk e o
  | .ct e o => P.ct e o
  | _ => False
@[simp] theorem RS.wp_nx (e : Env) (o : Obs) (P : Pt) : (RS.nx e o).wp P = P.nx e o := (rfl)
@[simp] theorem RS.wp_rt (e : D) (o : Obs) (P : Pt) : (RS.rt e o).wp P = P.rt e o := (rfl)
@[simp] theorem RS.wp_bk (e : Env) (o : Obs) (P : Pt) : (RS.bk e o).wp P = P.bk e o := (rfl)
@[simp] theorem RS.wp_ct (e : Env) (o : Obs) (P : Pt) : (RS.ct e o).wp P = P.ct e o := (rfl)
@[simp] theorem RS.wp_bad (P : Pt) : RS.bad.wp P = False := (rfl)
theorem RS.wp_seq {x : RS} {f : Env → Obs → RS} {P : Pt} (h : x.wp { P with nx := fun e o => (f e o).wp P }) : (x.seq f).wp P := by
  cases x <;> exact h
theorem RS.wp_imp {x : RS} {P P' : Pt} (h : x.wp P) (a : ∀ e o, P.nx e o → P'.nx e o) (b : ∀ e o, P.rt e o → P'.rt e o) (c : ∀ e o, P.bk e o → P'.bk e o) (d : ∀ e o, P.ct e o → P'.ct e o) : x.wp P' := by
  cases x with
  | nx e o => exact a e o h
  | rt e o => exact b e o h
  | bk e o => exact c e o h
  | ct e o => exact d e o h
  | _ => exact h.elim
theorem R.wp_st {α : Type} {x : R α} {env : Env} {f : α → Obs → RS} {P : Pt} (h : x.wp fun a o => (f a o).wp P) : (x.st env f).wp P := by
  cases x <;> first | exact h | exact h.elim
/-! ### slots -/
@[simp] theorem getD_zero (d : D) (l : Env) : getD' (.v d :: l) 0 = some d := (rfl)
@[simp] theorem getD_succ (s : Sl) (l : Env) (i : Nat) : getD' (s :: l) (i + 1) = getD' l i := (rfl)
section
variable (Φ : Str → List D → Obs → R D) (G : Str → Option D) (env : Env) (o : Obs)
def notD : D → Option D | .bl b => some (.bl (!b)) | _ => none
def negD : D → Option D | .int i => some (.int (-i)) | _ => none
def seqD : D → Option (List D) | .lst ds => some ds | .tup ds => some ds | _ => none
def intD : D → Option Int | .int i => some i | _ => none
@[simp] theorem notD_bl (b : Bool) : notD (.bl b) = some (.bl (!b)) := (rfl)
@[simp] theorem negD_int (b : Int) : negD (.int b) = some (.int (-b)) := (rfl)
@[simp] theorem seqD_lst (b : List D) : seqD (.lst b) = some b := (rfl)
@[simp] theorem seqD_tup (b : List D) : seqD (.tup b) = some b := (rfl)
@[simp] theorem intD_int (b : Int) : intD (.int b) = some b := (rfl)
def ifK {α : Type} (b : Bool) (x y : R α) : R α := if b then x else y
@[simp] theorem ifK_t {α : Type} (x y : R α) : ifK true x y = x := (rfl)
@[simp] theorem ifK_f {α : Type} (x y : R α) : ifK false x y = y := (rfl)
def ifS (b : Bool) (x y : RS) : RS := if b then x else y
@[simp] theorem ifS_t (x y : RS) : ifS true x y = x := (rfl)
@[simp] theorem ifS_f (x y : RS) : ifS false x y = y := (rfl)
def ifE (b : Bool) (x y : E) (env : Env) (o : Obs) : R D := if b then denE Φ G x env o else denE Φ G y env o
@[simp] theorem ifE_t (x y : E) : ifE Φ G true x y env o = denE Φ G x env o := (rfl)
@[simp] theorem ifE_f (x y : E) : ifE Φ G false x y env o = denE Φ G y env o := (rfl)
def ifT (b : Bool) (x y : E) (env : Env) (o : Obs) : R Bool := if b then denT Φ G x env o else denT Φ G y env o
@[simp] theorem ifT_t (x y : E) : ifT Φ G true x y env o = denT Φ G x env o := (rfl)
@[simp] theorem ifT_f (x y : E) : ifT Φ G false x y env o = denT Φ G y env o := (rfl)
/-- and then, or else -/
def kCon (es : Es) (env : Env) (x : D) (o : Obs) : R D := match x with | .bl true => denCon Φ G es env o | .bl false => .ok (.bl false) o | _ => .bad
def kDis (es : Es) (env : Env) (x : D) (o : Obs) : R D := match x with | .bl false => denDis Φ G es env o | .bl true => .ok (.bl true) o | _ => .bad
def kTC (es : Es) (env : Env) (x : Bool) (o : Obs) : R Bool := if x then denTC Φ G es env o else .ok false o
def kTD (es : Es) (env : Env) (x : Bool) (o : Obs) : R Bool := if x then .ok true o else denTD Φ G es env o
@[simp] theorem kCon_t (es : Es) : kCon Φ G es env (.bl true) o = denCon Φ G es env o := (rfl)
@[simp] theorem kCon_f (es : Es) : kCon Φ G es env (.bl false) o = .ok (.bl false) o := (rfl)
@[simp] theorem kDis_f (es : Es) : kDis Φ G es env (.bl false) o = denDis Φ G es env o := (rfl)
@[simp] theorem kDis_t (es : Es) : kDis Φ G es env (.bl true) o = .ok (.bl true) o := (rfl)
@[simp] theorem kTC_t (es : Es) : kTC Φ G es env true o = denTC Φ G es env o := (rfl)
@[simp] theorem kTC_f (es : Es) : kTC Φ G es env false o = .ok false o := (rfl)
@[simp] theorem kTD_f (es : Es) : kTD Φ G es env false o = denTD Φ G es env o := (rfl)
@[simp] theorem kTD_t (es : Es) : kTD Φ G es env true o = .ok true o := (rfl)
def kTru  (x : D) (o : Obs) : R Bool := R.opt o (truD x)
@[simp] theorem kTru_ap  (x : D) : kTru  x o = R.opt o (truD x) := (rfl)
def kBl  (k : Bool) (o : Obs) : R D := .ok (.bl k) o
@[simp] theorem kBl_ap  (k : Bool) : kBl  k o = .ok (.bl k) o := (rfl)
@[simp] theorem dE_lit (d : D) : denE Φ G (.lit d) env o = .ok d o := (rfl)
@[simp] theorem dE_var (i : Nat) : denE Φ G (.var i) env o = R.opt o (getD' env i) := (rfl)
@[simp] theorem dE_glob (x : Str) : denE Φ G (.glob x) env o = R.opt o (G x) := (rfl)
def kBin2 (op : Operator) (x : D) (y : D) (o : Obs) : R D := R.opt o (binD op x y)
@[simp] theorem kBin2_ap (op : Operator) (x : D) (y : D) : kBin2 op x y o = R.opt o (binD op x y) := (rfl)
def kBin1 (op : Operator) (b : E) (env : Env) (x : D) (o : Obs) : R D := (denE Φ G b env o).bind (kBin2 op x)
@[simp] theorem kBin1_ap (op : Operator) (b : E) (env : Env) (x : D) : kBin1 Φ G op b env x o = (denE Φ G b env o).bind (kBin2 op x) := (rfl)
@[simp] theorem dE_bin (op : Operator) (a b : E) : denE Φ G (.bin op a b) env o = (denE Φ G a env o).bind (kBin1 Φ G op b env) := (rfl)
def kCmp2 (op : CmpOp) (x : D) (y : D) (o : Obs) : R D := R.opt o ((cmpD op x y).map .bl)
@[simp] theorem kCmp2_ap (op : CmpOp) (x : D) (y : D) : kCmp2 op x y o = R.opt o ((cmpD op x y).map .bl) := (rfl)
def kCmp1 (op : CmpOp) (b : E) (env : Env) (x : D) (o : Obs) : R D := (denE Φ G b env o).bind (kCmp2 op x)
@[simp] theorem kCmp1_ap (op : CmpOp) (b : E) (env : Env) (x : D) : kCmp1 Φ G op b env x o = (denE Φ G b env o).bind (kCmp2 op x) := (rfl)
@[simp] theorem dE_cmp (op : CmpOp) (a b : E) : denE Φ G (.cmp op a b) env o = (denE Φ G a env o).bind (kCmp1 Φ G op b env) := (rfl)
def kTmp2 (op : CmpOp) (x : D) (y : D) (o : Obs) : R Bool := R.opt o (cmpD op x y)
@[simp] theorem kTmp2_ap (op : CmpOp) (x : D) (y : D) : kTmp2 op x y o = R.opt o (cmpD op x y) := (rfl)
def kTmp1 (op : CmpOp) (b : E) (env : Env) (x : D) (o : Obs) : R Bool := (denE Φ G b env o).bind (kTmp2 op x)
@[simp] theorem kTmp1_ap (op : CmpOp) (b : E) (env : Env) (x : D) : kTmp1 Φ G op b env x o = (denE Φ G b env o).bind (kTmp2 op x) := (rfl)
@[simp] theorem dT_cmp (op : CmpOp) (a b : E) : denT Φ G (.cmp op a b) env o = (denE Φ G a env o).bind (kTmp1 Φ G op b env) := by
  show (R.bind _ _).bind _ = _
  rw [R.bind_assoc]
  congr 1; funext x o; rw [R.bind_assoc]
  show _ = (denE Φ G b env o).bind _
  congr 1; funext y o
  show (R.opt o ((cmpD op x y).map D.bl)).bind _ = R.opt o (cmpD op x y)
  cases cmpD op x y <;> rfl
def kChn3 (o2 : CmpOp) (c : E) (env : Env) (y : D) (k : Bool) (o : Obs) : R D := (if k then (denE Φ G c env o).bind (kCmp2 o2 y) else .ok (.bl false) o)
@[simp] theorem kChn3_ap (o2 : CmpOp) (c : E) (env : Env) (y : D) (k : Bool) : kChn3 Φ G o2 c env y k o = (if k then (denE Φ G c env o).bind (kCmp2 o2 y) else .ok (.bl false) o) := (rfl)
def kChn2 (o1 : CmpOp) (o2 : CmpOp) (c : E) (env : Env) (x : D) (y : D) (o : Obs) : R D := (R.opt o (cmpD o1 x y)).bind (kChn3 Φ G o2 c env y)
@[simp] theorem kChn2_ap (o1 : CmpOp) (o2 : CmpOp) (c : E) (env : Env) (x : D) (y : D) : kChn2 Φ G o1 o2 c env x y o = (R.opt o (cmpD o1 x y)).bind (kChn3 Φ G o2 c env y) := (rfl)
def kChn1 (o1 : CmpOp) (o2 : CmpOp) (b : E) (c : E) (env : Env) (x : D) (o : Obs) : R D := (denE Φ G b env o).bind (kChn2 Φ G o1 o2 c env x)
@[simp] theorem kChn1_ap (o1 : CmpOp) (o2 : CmpOp) (b : E) (c : E) (env : Env) (x : D) : kChn1 Φ G o1 o2 b c env x o = (denE Φ G b env o).bind (kChn2 Φ G o1 o2 c env x) := (rfl)
@[simp] theorem dE_chn (o1 o2 : CmpOp) (a b c : E) : denE Φ G (.chn o1 o2 a b c) env o = (denE Φ G a env o).bind (kChn1 Φ G o1 o2 b c env) := by
  show (denE Φ G a env o).bind _ = _
  congr 1; funext x o; show (denE Φ G b env o).bind _ = (denE Φ G b env o).bind _
  congr 1; funext y o
  show _ = (R.opt o (cmpD o1 x y)).bind _
  cases cmpD o1 x y with
  | none => rfl
  | some k => cases k <;> rfl
def kNot  (x : D) (o : Obs) : R D := R.opt o (notD x)
@[simp] theorem kNot_ap  (x : D) : kNot  x o = R.opt o (notD x) := (rfl)
@[simp] theorem dE_not (a : E) : denE Φ G (.not a) env o = (denE Φ G a env o).bind kNot := by
  show (denE Φ G a env o).bind _ = _
  congr 1; funext x o; cases x <;> rfl
def kNeg  (x : D) (o : Obs) : R D := R.opt o (negD x)
@[simp] theorem kNeg_ap  (x : D) : kNeg  x o = R.opt o (negD x) := (rfl)
@[simp] theorem dE_neg (a : E) : denE Φ G (.neg a) env o = (denE Φ G a env o).bind kNeg := by
  show (denE Φ G a env o).bind _ = _
  congr 1; funext x o; cases x <;> rfl
@[simp] theorem dE_con (es : Es) : denE Φ G (.con es) env o = denCon Φ G es env o := (rfl)
@[simp] theorem dE_dis (es : Es) : denE Φ G (.dis es) env o = denDis Φ G es env o := (rfl)
def kIfe (a : E) (b : E) (env : Env) (k : Bool) (o : Obs) : R D := ifE Φ G k a b env o
@[simp] theorem kIfe_ap (a : E) (b : E) (env : Env) (k : Bool) : kIfe Φ G a b env k o = ifE Φ G k a b env o := (rfl)
@[simp] theorem dE_ife (c a b : E) : denE Φ G (.ife c a b) env o = (denT Φ G c env o).bind (kIfe Φ G a b env) := (rfl)
def kTife (a : E) (b : E) (env : Env) (k : Bool) (o : Obs) : R Bool := ifT Φ G k a b env o
@[simp] theorem kTife_ap (a : E) (b : E) (env : Env) (k : Bool) : kTife Φ G a b env k o = ifT Φ G k a b env o := (rfl)
@[simp] theorem dT_ife (c a b : E) : denT Φ G (.ife c a b) env o = (denT Φ G c env o).bind (kTife Φ G a b env) := (rfl)
def kTup  (ds : List D) (o : Obs) : R D := (if ds.length ≤ sizeLine then .ok (.tup ds) o else .bad)
@[simp] theorem kTup_ap  (ds : List D) : kTup  ds o = (if ds.length ≤ sizeLine then .ok (.tup ds) o else .bad) := (rfl)
@[simp] theorem dE_tup (es : Es) : denE Φ G (.tup es) env o = (denEs Φ G es env o).bind kTup := (rfl)
def kLst  (ds : List D) (o : Obs) : R D := (if ds.length ≤ sizeLine then .ok (.lst ds) o else .bad)
@[simp] theorem kLst_ap  (ds : List D) : kLst  ds o = (if ds.length ≤ sizeLine then .ok (.lst ds) o else .bad) := (rfl)
@[simp] theorem dE_lst (es : Es) : denE Φ G (.lst es) env o = (denEs Φ G es env o).bind kLst := (rfl)
def kIx2 (x : D) (y : D) (o : Obs) : R D := R.opt o (ixD x y)
@[simp] theorem kIx2_ap (x : D) (y : D) : kIx2 x y o = R.opt o (ixD x y) := (rfl)
def kIx1 (b : E) (env : Env) (x : D) (o : Obs) : R D := (denE Φ G b env o).bind (kIx2 x)
@[simp] theorem kIx1_ap (b : E) (env : Env) (x : D) : kIx1 Φ G b env x o = (denE Φ G b env o).bind (kIx2 x) := (rfl)
@[simp] theorem dE_ix (a b : E) : denE Φ G (.ix a b) env o = (denE Φ G a env o).bind (kIx1 Φ G b env) := (rfl)
def kSl3 (x : D) (l : Option Int) (h : Option Int) (o : Obs) : R D := R.opt o (slD x l h)
@[simp] theorem kSl3_ap (x : D) (l : Option Int) (h : Option Int) : kSl3 x l h o = R.opt o (slD x l h) := (rfl)
def kSl2 (hi : Eo) (env : Env) (x : D) (l : Option Int) (o : Obs) : R D := (denO Φ G hi env o).bind (kSl3 x l)
@[simp] theorem kSl2_ap (hi : Eo) (env : Env) (x : D) (l : Option Int) : kSl2 Φ G hi env x l o = (denO Φ G hi env o).bind (kSl3 x l) := (rfl)
def kSl1 (lo : Eo) (hi : Eo) (env : Env) (x : D) (o : Obs) : R D := (denO Φ G lo env o).bind (kSl2 Φ G hi env x)
@[simp] theorem kSl1_ap (lo : Eo) (hi : Eo) (env : Env) (x : D) : kSl1 Φ G lo hi env x o = (denO Φ G lo env o).bind (kSl2 Φ G hi env x) := (rfl)
@[simp] theorem dE_sl (a : E) (lo hi : Eo) : denE Φ G (.sl a lo hi) env o = (denE Φ G a env o).bind (kSl1 Φ G lo hi env) := (rfl)
def kRev  (x : D) (o : Obs) : R D := R.opt o (revD x)
@[simp] theorem kRev_ap  (x : D) : kRev  x o = R.opt o (revD x) := (rfl)
@[simp] theorem dE_rev (a : E) : denE Φ G (.rev a) env o = (denE Φ G a env o).bind kRev := (rfl)
@[simp] theorem dE_call (f : Str) (es : Es) : denE Φ G (.call f es) env o = (denEs Φ G es env o).bind (Φ f) := (rfl)
def kBi (f : String) (ds : List D) (o : Obs) : R D := R.opt o (biD f ds)
@[simp] theorem kBi_ap (f : String) (ds : List D) : kBi f ds o = R.opt o (biD f ds) := (rfl)
@[simp] theorem dE_bi (f : String) (es : Es) : denE Φ G (.bi f es) env o = (denEs Φ G es env o).bind (kBi f) := (rfl)
def kIsi (t : String) (x : D) (o : Obs) : R D := R.opt o ((isiD t x).map .bl)
@[simp] theorem kIsi_ap (t : String) (x : D) : kIsi t x o = R.opt o ((isiD t x).map .bl) := (rfl)
@[simp] theorem dE_isi (a : E) (t : String) : denE Φ G (.isi a t) env o = (denE Φ G a env o).bind (kIsi t) := (rfl)
def kTisi (t : String) (x : D) (o : Obs) : R Bool := R.opt o (isiD t x)
@[simp] theorem kTisi_ap (t : String) (x : D) : kTisi t x o = R.opt o (isiD t x) := (rfl)
@[simp] theorem dT_isi (a : E) (t : String) : denT Φ G (.isi a t) env o = (denE Φ G a env o).bind (kTisi t) := by
  show (R.bind _ _).bind _ = _
  rw [R.bind_assoc]
  congr 1; funext x o
  show (R.opt o ((isiD t x).map D.bl)).bind _ = R.opt o (isiD t x)
  cases isiD t x <;> rfl
def kLc (x : E) (tg : Tg) (c : Eo) (own : List (Str × Nat)) (env : Env) (ds : List D) (o : Obs) : R (List D) := lcD (own.map (·.2)) tg (denC Φ G c) (denE Φ G x) env ds [] o
@[simp] theorem kLc_ap (x : E) (tg : Tg) (c : Eo) (own : List (Str × Nat)) (env : Env) (ds : List D) : kLc Φ G x tg c own env ds o = lcD (own.map (·.2)) tg (denC Φ G c) (denE Φ G x) env ds [] o := (rfl)
@[simp] theorem dE_lc (x : E) (tg : Tg) (it : It) (c : Eo) (own : List (Str × Nat)) : denE Φ G (.lc x tg it c own) env o = ((denI Φ G it env o).bind (kLc Φ G x tg c own env)).map .lst := (rfl)
@[simp] theorem dF_lc (x : E) (tg : Tg) (it : It) (c : Eo) (own : List (Str × Nat)) : denF Φ G (.lc x tg it c own) env o = (denI Φ G it env o).bind (kLc Φ G x tg c own env) := (rfl)
def kLc2 (x : E) (tg : Tg) (c : Eo) (tg1 : Tg) (it1 : It) (c1 : Eo) (own : List (Str × Nat)) (vs1 : List Nat) (env : Env) (ds : List D) (o : Obs) : R (List D) := lc2D (own.map (·.2)) vs1 tg (denC Φ G c) (denI Φ G it1) tg1 (denC Φ G c1) (denE Φ G x) env ds [] o
@[simp] theorem kLc2_ap (x : E) (tg : Tg) (c : Eo) (tg1 : Tg) (it1 : It) (c1 : Eo) (own : List (Str × Nat)) (vs1 : List Nat) (env : Env) (ds : List D) : kLc2 Φ G x tg c tg1 it1 c1 own vs1 env ds o = lc2D (own.map (·.2)) vs1 tg (denC Φ G c) (denI Φ G it1) tg1 (denC Φ G c1) (denE Φ G x) env ds [] o := (rfl)
@[simp] theorem dE_lc2 (x : E) (tg : Tg) (it : It) (c : Eo) (tg1 : Tg) (it1 : It) (c1 : Eo) (own : List (Str × Nat)) (vs1 : List Nat) : denE Φ G (.lc2 x tg it c tg1 it1 c1 own vs1) env o = ((denI Φ G it env o).bind (kLc2 Φ G x tg c tg1 it1 c1 own vs1 env)).map .lst := (rfl)
def kSset  (x : D) (o : Obs) : R D := R.opt o (ssetD x)
@[simp] theorem kSset_ap  (x : D) : kSset  x o = R.opt o (ssetD x) := (rfl)
@[simp] theorem dE_sset (a : E) : denE Φ G (.sset a) env o = (denE Φ G a env o).bind kSset := (rfl)
def kOixd (i : Int) (ds : List D) (o : Obs) : R D := R.opt o (atI ds i)
@[simp] theorem kOixd_ap (i : Int) (ds : List D) : kOixd i ds o = R.opt o (atI ds i) := (rfl)
def kOixi (x : D) (i : Int) (o : Obs) : R D := (R.opt o (lsO o x)).bind (kOixd i)
@[simp] theorem kOixi_ap (x : D) (i : Int) : kOixi x i o = (R.opt o (lsO o x)).bind (kOixd i) := (rfl)
def kOix2 (x : D) (y : D) (o : Obs) : R D := (R.opt o (intD y)).bind (kOixi x)
@[simp] theorem kOix2_ap (x : D) (y : D) : kOix2 x y o = (R.opt o (intD y)).bind (kOixi x) := (rfl)
def kOix1 (b : E) (env : Env) (x : D) (o : Obs) : R D := (denE Φ G b env o).bind (kOix2 x)
@[simp] theorem kOix1_ap (b : E) (env : Env) (x : D) : kOix1 Φ G b env x o = (denE Φ G b env o).bind (kOix2 x) := (rfl)
@[simp] theorem dE_oix (a b : E) : denE Φ G (.oix a b) env o = (denE Φ G a env o).bind (kOix1 Φ G b env) := by
  show (denE Φ G a env o).bind _ = _
  congr 1; funext x o; show (denE Φ G b env o).bind _ = (denE Φ G b env o).bind _
  congr 1; funext y o
  cases y <;> first | rfl | skip
  rename_i i
  show R.opt o ((lsO o x).bind fun ds => atI ds i) = (R.opt o (lsO o x)).bind (kOixd i)
  cases lsO o x <;> rfl
def kOlen  (x : D) (o : Obs) : R D := R.opt o ((lsO o x).map fun ds => .int ds.length)
@[simp] theorem kOlen_ap  (x : D) : kOlen  x o = R.opt o ((lsO o x).map fun ds => .int ds.length) := (rfl)
@[simp] theorem dE_olen (a : E) : denE Φ G (.olen a) env o = (denE Φ G a env o).bind kOlen := (rfl)
def kOnew  (ds : List D) (o : Obs) : R D := (if ds.length ≤ sizeLine then .ok (.obj o.length) (o ++ [.ls ds]) else .bad)
@[simp] theorem kOnew_ap  (ds : List D) : kOnew  ds o = (if ds.length ≤ sizeLine then .ok (.obj o.length) (o ++ [.ls ds]) else .bad) := (rfl)
@[simp] theorem dE_onew (es : Es) : denE Φ G (.onew es) env o = (denEs Φ G es env o).bind kOnew := (rfl)
def kOls  (ds : List D) (o : Obs) : R D := .ok (.obj o.length) (o ++ [.ls ds])
@[simp] theorem kOls_ap  (ds : List D) : kOls  ds o = .ok (.obj o.length) (o ++ [.ls ds]) := (rfl)
def kOlist  (x : D) (o : Obs) : R D := (R.opt o (seqD x)).bind kOls
@[simp] theorem kOlist_ap  (x : D) : kOlist  x o = (R.opt o (seqD x)).bind kOls := (rfl)
@[simp] theorem dE_olist (a : E) : denE Φ G (.olist a) env o = (denE Φ G a env o).bind kOlist := by
  show (denE Φ G a env o).bind _ = _
  congr 1; funext x o; cases x <;> rfl
def kOm4  (y : D × Obs) (o : Obs) : R D := .ok y.1 y.2
@[simp] theorem kOm4_ap  (y : D × Obs) : kOm4  y o = .ok y.1 y.2 := (rfl)
def kOm3 (m : String) (x : D) (d : D) (o : Obs) : R D := (R.opt o (omD m o x d)).bind kOm4
@[simp] theorem kOm3_ap (m : String) (x : D) (d : D) : kOm3 m x d o = (R.opt o (omD m o x d)).bind kOm4 := (rfl)
def kOm2 (m : String) (e : E) (env : Env) (x : D) (z : List D) (o : Obs) : R D := (denE Φ G e env o).bind (kOm3 m x)
@[simp] theorem kOm2_ap (m : String) (e : E) (env : Env) (x : D) (z : List D) : kOm2 Φ G m e env x z o = (denE Φ G e env o).bind (kOm3 m x) := (rfl)
def kOm1 (m : String) (e : E) (env : Env) (x : D) (o : Obs) : R D := (R.opt o (lsO o x)).bind (kOm2 Φ G m e env x)
@[simp] theorem kOm1_ap (m : String) (e : E) (env : Env) (x : D) : kOm1 Φ G m e env x o = (R.opt o (lsO o x)).bind (kOm2 Φ G m e env x) := (rfl)
@[simp] theorem dE_om (m : String) (a e : E) : denE Φ G (.om m a e) env o = (denE Φ G a env o).bind (kOm1 Φ G m e env) := by
  show (denE Φ G a env o).bind _ = _
  congr 1; funext x o
  show _ = (R.opt o (lsO o x)).bind _
  cases lsO o x with
  | none => rfl
  | some ds =>
    show (denE Φ G e env o).bind _ = (denE Φ G e env o).bind _
    congr 1; funext d o
    show _ = (R.opt o (omD m o x d)).bind _
    cases omD m o x d <;> rfl
def kBor  (d : D) (o : Obs) : R D := ifK (noL d && o.all noLO) (.ok d o) .bad
@[simp] theorem kBor_ap  (d : D) : kBor  d o = ifK (noL d && o.all noLO) (.ok d o) .bad := (rfl)
def kTbor  (d : Bool) (o : Obs) : R Bool := ifK (o.all noLO) (.ok d o) .bad
@[simp] theorem kTbor_ap  (d : Bool) : kTbor  d o = ifK (o.all noLO) (.ok d o) .bad := (rfl)
def lent (i : Nat) (env : Env) : Option Env := match env[i]? with | some (.ol ds) => some (env.set i (.v (.lst ds))) | _ => none
def kBor0 (e : E) (env : Env) (o : Obs) : R D := ((denE Φ G e env o).noex).bind kBor
@[simp] theorem kBor0_ap (e : E) (env : Env) : kBor0 Φ G e env o = ((denE Φ G e env o).noex).bind kBor := (rfl)
def kTbor0 (e : E) (env : Env) (o : Obs) : R Bool := ((denT Φ G e env o).noex).bind kTbor
@[simp] theorem kTbor0_ap (e : E) (env : Env) : kTbor0 Φ G e env o = ((denT Φ G e env o).noex).bind kTbor := (rfl)
@[simp] theorem dE_bor (i : Nat) (e : E) : denE Φ G (.bor i e) env o = (R.opt o (lent i env)).bind (kBor0 Φ G e) := by
  have : denE Φ G (.bor i e) env o = match env[i]? with
    | some (.ol ds) => ((denE Φ G e (env.set i (.v (.lst ds))) o).noex).bind fun d o => if noL d && o.all noLO then .ok d o else .bad
    | _ => .bad := rfl
  rw [this]; unfold lent
  cases env[i]? with
  | none => rfl
  | some s => cases s <;> rfl
@[simp] theorem dT_bor (i : Nat) (e : E) : denT Φ G (.bor i e) env o = (R.opt o (lent i env)).bind (kTbor0 Φ G e) := by
  have : denT Φ G (.bor i e) env o = match env[i]? with
    | some (.ol ds) => ((denT Φ G e (env.set i (.v (.lst ds))) o).noex).bind fun d o => if true && o.all noLO then .ok d o else .bad
    | _ => .bad := rfl
  rw [this]; unfold lent
  cases env[i]? with
  | none => rfl
  | some s => cases s <;> rfl
@[simp] theorem dEs_nil  : denEs Φ G .nil env o = .ok [] o := (rfl)
def kCons2 (x : D) (xs : List D) (o : Obs) : R (List D) := .ok (x :: xs) o
@[simp] theorem kCons2_ap (x : D) (xs : List D) : kCons2 x xs o = .ok (x :: xs) o := (rfl)
def kCons1 (r : Es) (env : Env) (x : D) (o : Obs) : R (List D) := (denEs Φ G r env o).bind (kCons2 x)
@[simp] theorem kCons1_ap (r : Es) (env : Env) (x : D) : kCons1 Φ G r env x o = (denEs Φ G r env o).bind (kCons2 x) := (rfl)
@[simp] theorem dEs_cons (e : E) (r : Es) : denEs Φ G (.cons e r) env o = (denE Φ G e env o).bind (kCons1 Φ G r env) := (rfl)
@[simp] theorem dCon_one (e : E) : denCon Φ G (.cons e .nil) env o = denE Φ G e env o := (rfl)
@[simp] theorem dCon_cons (e e2 : E) (r : Es) : denCon Φ G (.cons e (.cons e2 r)) env o = (denE Φ G e env o).bind (kCon Φ G (.cons e2 r) env) := (rfl)
@[simp] theorem dDis_one (e : E) : denDis Φ G (.cons e .nil) env o = denE Φ G e env o := (rfl)
@[simp] theorem dDis_cons (e e2 : E) (r : Es) : denDis Φ G (.cons e (.cons e2 r)) env o = (denE Φ G e env o).bind (kDis Φ G (.cons e2 r) env) := (rfl)
@[simp] theorem dTC_one (e : E) : denTC Φ G (.cons e .nil) env o = denT Φ G e env o := (rfl)
@[simp] theorem dTC_cons (e e2 : E) (r : Es) : denTC Φ G (.cons e (.cons e2 r)) env o = (denT Φ G e env o).bind (kTC Φ G (.cons e2 r) env) := (rfl)
@[simp] theorem dTD_one (e : E) : denTD Φ G (.cons e .nil) env o = denT Φ G e env o := (rfl)
@[simp] theorem dTD_cons (e e2 : E) (r : Es) : denTD Φ G (.cons e (.cons e2 r)) env o = (denT Φ G e env o).bind (kTD Φ G (.cons e2 r) env) := (rfl)
@[simp] theorem dT_con (es : Es) : denT Φ G (.con es) env o = denTC Φ G es env o := (rfl)
@[simp] theorem dT_dis (es : Es) : denT Φ G (.dis es) env o = denTD Φ G es env o := (rfl)
@[simp] theorem dT_not (a : E) : denT Φ G (.not a) env o = (denT Φ G a env o).map not := (rfl)
@[simp] theorem dT_lit (d : D) : denT Φ G (.lit d) env o = (denE Φ G (.lit d) env o).bind kTru := (rfl)
@[simp] theorem dT_var (i : Nat) : denT Φ G (.var i) env o = (denE Φ G (.var i) env o).bind kTru := (rfl)
@[simp] theorem dT_glob (x : Str) : denT Φ G (.glob x) env o = (denE Φ G (.glob x) env o).bind kTru := (rfl)
@[simp] theorem dT_bin (op : Operator) (a b : E) : denT Φ G (.bin op a b) env o = (denE Φ G (.bin op a b) env o).bind kTru := (rfl)
@[simp] theorem dT_chn (o1 o2 : CmpOp) (a b c : E) : denT Φ G (.chn o1 o2 a b c) env o = (denE Φ G (.chn o1 o2 a b c) env o).bind kTru := (rfl)
@[simp] theorem dT_ix (a b : E) : denT Φ G (.ix a b) env o = (denE Φ G (.ix a b) env o).bind kTru := (rfl)
@[simp] theorem dT_call (f : Str) (es : Es) : denT Φ G (.call f es) env o = (denE Φ G (.call f es) env o).bind kTru := (rfl)
@[simp] theorem dT_bi (f : String) (es : Es) : denT Φ G (.bi f es) env o = (denE Φ G (.bi f es) env o).bind kTru := (rfl)
@[simp] theorem dT_oix (a b : E) : denT Φ G (.oix a b) env o = (denE Φ G (.oix a b) env o).bind kTru := (rfl)
@[simp] theorem dT_olen (a : E) : denT Φ G (.olen a) env o = (denE Φ G (.olen a) env o).bind kTru := (rfl)
@[simp] theorem dT_sl (a : E) (lo hi : Eo) : denT Φ G (.sl a lo hi) env o = (denE Φ G (.sl a lo hi) env o).bind kTru := (rfl)
@[simp] theorem dO_none  : denO Φ G .none env o = .ok none o := (rfl)
def kO  (x : D) (o : Obs) : R (Option Int) := R.opt o ((intD x).map some)
@[simp] theorem kO_ap  (x : D) : kO  x o = R.opt o ((intD x).map some) := (rfl)
@[simp] theorem dO_some (e : E) : denO Φ G (.some e) env o = (denE Φ G e env o).bind kO := by
  show (denE Φ G e env o).bind _ = _
  congr 1; funext x o; cases x <;> rfl
@[simp] theorem dC_none  : denC Φ G .none env o = .ok true o := (rfl)
@[simp] theorem dC_some (e : E) : denC Φ G (.some e) env o = denT Φ G e env o := (rfl)
def kSeq  (x : D) (o : Obs) : R (List D) := R.opt o (seqD x)
@[simp] theorem kSeq_ap  (x : D) : kSeq  x o = R.opt o (seqD x) := (rfl)
def kEnum (x : D) (o : Obs) : R (List D) := R.opt o ((seqD x).map enumD)
@[simp] theorem kEnum_ap (x : D) (o : Obs) : kEnum x o = R.opt o ((seqD x).map enumD) := (rfl)
@[simp] theorem dI_sq (e : E) : denI Φ G (.sq e) env o = (denE Φ G e env o).bind kSeq := by
  show (denE Φ G e env o).bind _ = _
  congr 1; funext x o; cases x <;> rfl
def kR1i (n : Int) (o : Obs) : R (List D) := cond (smallI n) (.ok (rangeD 0 n.toNat 1) o) .bad
theorem kR1i_ap (n : Int) : kR1i n o = cond (smallI n) (.ok (rangeD 0 n.toNat 1) o) .bad := (rfl)
@[simp] theorem kR1i_ok (n : Int) (h : smallI n = true) : kR1i n o = .ok (rangeD 0 n.toNat 1) o := by rw [kR1i_ap, h]; rfl
def kR1  (x : D) (o : Obs) : R (List D) := (R.opt o (intD x)).bind kR1i
@[simp] theorem kR1_ap  (x : D) : kR1  x o = (R.opt o (intD x)).bind kR1i := (rfl)
@[simp] theorem dI_en (e : E) : denI Φ G (.en e) env o = (denE Φ G e env o).bind kEnum := by
  show R.bind _ _ = R.bind _ _
  congr 1; funext x o
  cases x <;> rfl
@[simp] theorem dI_r1 (a : E) : denI Φ G (.r1 a) env o = (denE Φ G a env o).bind kR1 := by
  show (denE Φ G a env o).bind _ = _
  congr 1; funext x o; cases x <;> first | rfl | (rename_i n; show (if smallI n then _ else _) = kR1i n o; unfold kR1i; cases smallI n <;> rfl)
def kR2j (i j : Int) (o : Obs) : R (List D) := cond (smallI i && smallI j) (.ok (rangeD i (j - i).toNat 1) o) .bad
@[simp] theorem kR2j_ok (i j : Int) (h : smallI i = true) (h2 : smallI j = true) : kR2j i j o = .ok (rangeD i (j - i).toNat 1) o := by unfold kR2j; rw [h, h2]; rfl
def kR2i (y : D) (i : Int) (o : Obs) : R (List D) := (R.opt o (intD y)).bind (kR2j i)
@[simp] theorem kR2i_ap (y : D) (i : Int) : kR2i y i o = (R.opt o (intD y)).bind (kR2j i) := (rfl)
def kR2b (x : D) (y : D) (o : Obs) : R (List D) := (R.opt o (intD x)).bind (kR2i y)
@[simp] theorem kR2b_ap (x : D) (y : D) : kR2b x y o = (R.opt o (intD x)).bind (kR2i y) := (rfl)
def kR2a (b : E) (env : Env) (x : D) (o : Obs) : R (List D) := (denE Φ G b env o).bind (kR2b x)
@[simp] theorem kR2a_ap (b : E) (env : Env) (x : D) : kR2a Φ G b env x o = (denE Φ G b env o).bind (kR2b x) := (rfl)
@[simp] theorem dI_r2 (a b : E) : denI Φ G (.r2 a b) env o = (denE Φ G a env o).bind (kR2a Φ G b env) := by
  show (denE Φ G a env o).bind _ = _
  congr 1; funext x o; show (denE Φ G b env o).bind _ = (denE Φ G b env o).bind _
  congr 1; funext y o; cases x <;> first | rfl | (cases y <;> first | rfl | (rename_i i j; show (if smallI i && smallI j then _ else _) = kR2j i j o; unfold kR2j; cases (smallI i && smallI j) <;> rfl))
def rng3 (i j k : Int) : Option (List D) := cond (Builtin.Range.small i j k && decide (k ≠ 0 ∧ k.natAbs < 1073741824 ∧ 0 ≤ Builtin.Range.rangeSize i j k)) (some (rangeD i (Builtin.Range.rangeSize i j k).toNat k)) none
def kR3k (i j k : Int) (o : Obs) : R (List D) := R.opt o (rng3 i j k)
@[simp] theorem kR3k_ap (i j k : Int) : kR3k i j k o = R.opt o (rng3 i j k) := (rfl)
def kR3j (z : D) (i j : Int) (o : Obs) : R (List D) := (R.opt o (intD z)).bind (kR3k i j)
@[simp] theorem kR3j_ap (z : D) (i j : Int) : kR3j z i j o = (R.opt o (intD z)).bind (kR3k i j) := (rfl)
def kR3i (y z : D) (i : Int) (o : Obs) : R (List D) := (R.opt o (intD y)).bind (kR3j z i)
@[simp] theorem kR3i_ap (y z : D) (i : Int) : kR3i y z i o = (R.opt o (intD y)).bind (kR3j z i) := (rfl)
def kR3c (x : D) (y : D) (z : D) (o : Obs) : R (List D) := (R.opt o (intD x)).bind (kR3i y z)
@[simp] theorem kR3c_ap (x : D) (y : D) (z : D) : kR3c x y z o = (R.opt o (intD x)).bind (kR3i y z) := (rfl)
def kR3b (c : E) (env : Env) (x : D) (y : D) (o : Obs) : R (List D) := (denE Φ G c env o).bind (kR3c x y)
@[simp] theorem kR3b_ap (c : E) (env : Env) (x : D) (y : D) : kR3b Φ G c env x y o = (denE Φ G c env o).bind (kR3c x y) := (rfl)
def kR3a (b : E) (c : E) (env : Env) (x : D) (o : Obs) : R (List D) := (denE Φ G b env o).bind (kR3b Φ G c env x)
@[simp] theorem kR3a_ap (b : E) (c : E) (env : Env) (x : D) : kR3a Φ G b c env x o = (denE Φ G b env o).bind (kR3b Φ G c env x) := (rfl)
@[simp] theorem dI_r3 (a b c : E) : denI Φ G (.r3 a b c) env o = (denE Φ G a env o).bind (kR3a Φ G b c env) := by
  show (denE Φ G a env o).bind _ = _
  congr 1; funext x o; show (denE Φ G b env o).bind _ = (denE Φ G b env o).bind _
  congr 1; funext y o; show (denE Φ G c env o).bind _ = (denE Φ G c env o).bind _
  congr 1; funext z o; cases x <;> first | rfl | (cases y <;> first | rfl | (cases z <;> first | rfl | skip))
  rename_i i j k
  show (if Builtin.Range.small i j k && decide (k ≠ 0 ∧ k.natAbs < 1073741824 ∧ 0 ≤ Builtin.Range.rangeSize i j k) then _ else _) = R.opt o (rng3 i j k)
  unfold rng3
  cases (Builtin.Range.small i j k && decide (k ≠ 0 ∧ k.natAbs < 1073741824 ∧ 0 ≤ Builtin.Range.rangeSize i j k)) <;> rfl
def kDsp  (ds : List D) (o : Obs) : R (List D) := (if ds.length ≤ sizeLine then .ok ds o else .bad)
@[simp] theorem kDsp_ap  (ds : List D) : kDsp  ds o = (if ds.length ≤ sizeLine then .ok ds o else .bad) := (rfl)
@[simp] theorem dF_dsp (es : Es) : denF Φ G (.dsp es) env o = (denEs Φ G es env o).bind kDsp := (rfl)
@[simp] theorem dF_lo (e : E) : denF Φ G (.lo e) env o = (denE Φ G e env o).bind kSeq := by
  show (denE Φ G e env o).bind _ = _
  congr 1; funext x o; cases x <;> rfl
@[simp] theorem dPs_nil  : denPs Φ G [] env o = .ok [] o := (rfl)
def kPs2 (s : Sl) (xs : List Sl) (o : Obs) : R (List Sl) := .ok (s :: xs) o
@[simp] theorem kPs2_ap (s : Sl) (xs : List Sl) : kPs2 s xs o = .ok (s :: xs) o := (rfl)
def kPs1 (r : List (E ⊕ Fr)) (env : Env) (x : D) (o : Obs) : R (List Sl) := (denPs Φ G r env o).bind (kPs2 (.v x))
@[simp] theorem kPs1_ap (r : List (E ⊕ Fr)) (env : Env) (x : D) : kPs1 Φ G r env x o = (denPs Φ G r env o).bind (kPs2 (.v x)) := (rfl)
def kPs1f (r : List (E ⊕ Fr)) (env : Env) (x : List D) (o : Obs) : R (List Sl) := (denPs Φ G r env o).bind (kPs2 (.ol x))
@[simp] theorem kPs1f_ap (r : List (E ⊕ Fr)) (env : Env) (x : List D) : kPs1f Φ G r env x o = (denPs Φ G r env o).bind (kPs2 (.ol x)) := (rfl)
@[simp] theorem dPs_inl (e : E) (r : List (E ⊕ Fr)) : denPs Φ G (.inl e :: r) env o = (denE Φ G e env o).bind (kPs1 Φ G r env) := (rfl)
@[simp] theorem dPs_inr (e : Fr) (r : List (E ⊕ Fr)) : denPs Φ G (.inr e :: r) env o = (denF Φ G e env o).bind (kPs1f Φ G r env) := (rfl)
@[simp] theorem setSl_nil  : setSl [] [] env = some env := (rfl)
@[simp] theorem setSl_cons (i : Nat) (is : List Nat) (s : Sl) (ss : List Sl) : setSl (i :: is) (s :: ss) env = setSl is ss (env.set i s) := (rfl)
@[simp] theorem setTs_nil  : setTs [] [] env = some env := (rfl)
@[simp] theorem setTs_cons (i : Nat) (is : List Nat) (s : D) (ss : List D) : setTs (i :: is) (s :: ss) env = setTs is ss (env.set i (.v s)) := (rfl)
@[simp] theorem setTg_nm (i : Nat) (d : D) : setTg (.nm i) d env = some (env.set i (.v d)) := (rfl)
@[simp] theorem setTg_tp (ts : List Nat) (ds : List D) : setTg (.tp ts) (.tup ds) env = if ds.length = ts.length then setTs ts ds env else none := (rfl)
@[simp] theorem setTg_tt (ts : List (Nat ⊕ List Nat)) (ds : List D) : setTg (.tt ts) (.tup ds) env = if ds.length = ts.length then setTt ts ds env else none := (rfl)
@[simp] theorem setTt_nil : setTt [] [] env = some env := (rfl)
@[simp] theorem setTt_cons (t : Nat ⊕ List Nat) (ts : List (Nat ⊕ List Nat)) (d : D) (ds : List D) : setTt (t :: ts) (d :: ds) env = (setT1 t d env).bind (setTt ts ds) := (rfl)
@[simp] theorem setT1_inl (i : Nat) (d : D) : setT1 (.inl i) d env = some (env.set i (.v d)) := (rfl)
@[simp] theorem setT1_inr (ts : List Nat) (ds : List D) : setT1 (.inr ts) (.tup ds) env = if ds.length = ts.length then setTs ts ds env else none := (rfl)
@[simp] theorem wipeE_nil  : wipeE env [] = env := (rfl)
@[simp] theorem wipeE_cons (v : Nat) (vs : List Nat) : wipeE env (v :: vs) = (wipeE env vs).set v .un := (rfl)
variable (N : Nat)
def slL (env : Env) (i : Nat) : Option (List D) := match env[i]? with | some (.ol ds) => some ds | _ => none
@[simp] theorem slL_zero (d : List D) (l : Env) : slL (.ol d :: l) 0 = some d := (rfl)
@[simp] theorem slL_succ (s : Sl) (l : Env) (i : Nat) : slL (s :: l) (i + 1) = slL l i := (rfl)
@[simp] theorem lent_zero (d : List D) (l : Env) : lent 0 (.ol d :: l) = some (.v (.lst d) :: l) := (rfl)
@[simp] theorem lent_succ (s : Sl) (l : Env) (i : Nat) : lent (i + 1) (s :: l) = (lent i l).map (s :: ·) := by
  unfold lent
  rw [List.getElem?_cons_succ]
  cases l[i]? with
  | none => rfl
  | some t => cases t <;> rfl
def qSet (i : Nat) (env : Env) (x : D) (o : Obs) : RS := .nx (env.set i (.v x)) o
@[simp] theorem qSet_ap (i : Nat) (env : Env) (x : D) : qSet i env x o = .nx (env.set i (.v x)) o := (rfl)
@[simp] theorem dS_set (i : Nat) (e : E) : denS Φ G N (.set i e) env o = (denE Φ G e env o).st env (qSet i env) := (rfl)
def qNew (i : Nat) (env : Env) (x : List D) (o : Obs) : RS := .nx (env.set i (.ol x)) o
@[simp] theorem qNew_ap (i : Nat) (env : Env) (x : List D) : qNew i env x o = .nx (env.set i (.ol x)) o := (rfl)
@[simp] theorem dS_new (i : Nat) (f : Fr) : denS Φ G N (.new i f) env o = (denF Φ G f env o).st env (qNew i env) := (rfl)
def qNx  (env : Env) (o : Obs) : RS := .nx env o
@[simp] theorem qNx_ap  (env : Env) : qNx  env o = .nx env o := (rfl)
def qTup (ts : List Nat) (env : Env) (x : D) (o : Obs) : RS := (R.opt o (setTg (.tp ts) x env)).st env qNx
@[simp] theorem qTup_ap (ts : List Nat) (env : Env) (x : D) : qTup ts env x o = (R.opt o (setTg (.tp ts) x env)).st env qNx := (rfl)
@[simp] theorem dS_tup (ts : List Nat) (e : E) : denS Φ G N (.tup ts e) env o = (denE Φ G e env o).st env (qTup ts env) := by
  show (denE Φ G e env o).st env _ = _
  congr 1; funext x o
  show (match setTg (.tp ts) x env with | some env => RS.nx env o | none => .bad) = (R.opt o (setTg (.tp ts) x env)).st env qNx
  cases setTg (.tp ts) x env <;> rfl
def qTgt (tg : Tg) (env : Env) (x : D) (o : Obs) : RS := (R.opt o (setTg tg x env)).st env qNx
@[simp] theorem qTgt_ap (tg : Tg) (env : Env) (x : D) : qTgt tg env x o = (R.opt o (setTg tg x env)).st env qNx := (rfl)
@[simp] theorem dS_tgt (tg : Tg) (e : E) : denS Φ G N (.tgt tg e) env o = (denE Φ G e env o).st env (qTgt tg env) := by
  show (denE Φ G e env o).st env _ = _
  congr 1; funext x o
  show (match setTg tg x env with | some env => RS.nx env o | none => .bad) = (R.opt o (setTg tg x env)).st env qNx
  cases setTg tg x env <;> rfl
def qPar (ts : List Nat) (env : Env) (xs : List Sl) (o : Obs) : RS := (R.opt o (setSl ts xs env)).st env qNx
@[simp] theorem qPar_ap (ts : List Nat) (env : Env) (xs : List Sl) : qPar ts env xs o = (R.opt o (setSl ts xs env)).st env qNx := (rfl)
@[simp] theorem dS_par (ts : List Nat) (es : List (E ⊕ Fr)) : denS Φ G N (.par ts es) env o = (denPs Φ G es env o).st env (qPar ts env) := by
  show (denPs Φ G es env o).st env _ = _
  congr 1; funext x o
  show (match setSl ts x env with | some env => RS.nx env o | none => .bad) = (R.opt o (setSl ts x env)).st env qNx
  cases setSl ts x env <;> rfl
def qAug (i : Nat) (op : Operator) (env : Env) (x : D) (y : D) (o : Obs) : RS := (R.opt o (augD op x y)).st env (qSet i env)
@[simp] theorem qAug_ap (i : Nat) (op : Operator) (env : Env) (x : D) (y : D) : qAug i op env x y o = (R.opt o (augD op x y)).st env (qSet i env) := (rfl)
def qAug0 (i : Nat) (op : Operator) (e : E) (env : Env) (x : D) (o : Obs) : RS := (denE Φ G e env o).st env (qAug i op env x)
@[simp] theorem qAug0_ap (i : Nat) (op : Operator) (e : E) (env : Env) (x : D) : qAug0 Φ G i op e env x o = (denE Φ G e env o).st env (qAug i op env x) := (rfl)
@[simp] theorem dS_aug (i : Nat) (op : Operator) (e : E) : denS Φ G N (.aug i op e) env o = (R.opt o (getD' env i)).st env (qAug0 Φ G i op e env) := by
  have : denS Φ G N (.aug i op e) env o = match env[i]? with
    | some (.v x) => (denE Φ G e env o).st env fun y o => match augD op x y with
      | some z => .nx (env.set i (.v z)) o
      | none => .bad
    | _ => .bad := rfl
  rw [this]; unfold getD'
  cases env[i]? with
  | none => rfl
  | some s =>
    cases s <;> first | rfl | skip
    rename_i d
    show (denE Φ G e env o).st env _ = (denE Φ G e env o).st env _
    congr 1; funext y o
    show (match augD op d y with | some z => RS.nx (env.set i (.v z)) o | none => .bad) = (R.opt o (augD op d y)).st env (qSet i env)
    cases augD op d y <;> rfl
def qApp (i : Nat) (env : Env) (ds : List D) (x : D) (o : Obs) : RS := (if ds.length < sizeLine then .nx (env.set i (.ol (ds ++ [x]))) o else .bad)
@[simp] theorem qApp_ap (i : Nat) (env : Env) (ds : List D) (x : D) : qApp i env ds x o = (if ds.length < sizeLine then .nx (env.set i (.ol (ds ++ [x]))) o else .bad) := (rfl)
def qApp0 (i : Nat) (e : E) (env : Env) (ds : List D) (o : Obs) : RS := (denE Φ G e env o).st env (qApp i env ds)
@[simp] theorem qApp0_ap (i : Nat) (e : E) (env : Env) (ds : List D) : qApp0 Φ G i e env ds o = (denE Φ G e env o).st env (qApp i env ds) := (rfl)
@[simp] theorem dS_app (i : Nat) (e : E) : denS Φ G N (.app i e) env o = (R.opt o (slL env i)).st env (qApp0 Φ G i e env) := by
  have : denS Φ G N (.app i e) env o = match env[i]? with
    | some (.ol ds) => (denE Φ G e env o).st env fun x o => if ds.length < sizeLine then .nx (env.set i (.ol (ds ++ [x]))) o else .bad
    | _ => .bad := rfl
  rw [this]; unfold slL
  cases env[i]? with
  | none => rfl
  | some s => cases s <;> rfl
def qPut4 (env : Env) (x : D) (y : D) (ds : List D) (n : Nat) (o : Obs) : RS := .nx env (setO o y (ds.set n x))
@[simp] theorem qPut4_ap (env : Env) (x : D) (y : D) (ds : List D) (n : Nat) : qPut4 env x y ds n o = .nx env (setO o y (ds.set n x)) := (rfl)
def qPut3 (env : Env) (x : D) (y : D) (j : Int) (ds : List D) (o : Obs) : RS := (R.opt o (ixN ds.length j)).st env (qPut4 env x y ds)
@[simp] theorem qPut3_ap (env : Env) (x : D) (y : D) (j : Int) (ds : List D) : qPut3 env x y j ds o = (R.opt o (ixN ds.length j)).st env (qPut4 env x y ds) := (rfl)
def qPut2 (env : Env) (x : D) (y : D) (j : Int) (o : Obs) : RS := (R.opt o (lsO o y)).st env (qPut3 env x y j)
@[simp] theorem qPut2_ap (env : Env) (x : D) (y : D) (j : Int) : qPut2 env x y j o = (R.opt o (lsO o y)).st env (qPut3 env x y j) := (rfl)
def qPutZ (env : Env) (x : D) (y : D) (z : D) (o : Obs) : RS := (R.opt o (intD z)).st env (qPut2 env x y)
@[simp] theorem qPutZ_ap (env : Env) (x : D) (y : D) (z : D) : qPutZ env x y z o = (R.opt o (intD z)).st env (qPut2 env x y) := (rfl)
def qPut1 (k : E) (env : Env) (x : D) (y : D) (o : Obs) : RS := (denE Φ G k env o).st env (qPutZ env x y)
@[simp] theorem qPut1_ap (k : E) (env : Env) (x : D) (y : D) : qPut1 Φ G k env x y o = (denE Φ G k env o).st env (qPutZ env x y) := (rfl)
def qPut0 (a : E) (k : E) (env : Env) (x : D) (o : Obs) : RS := (denE Φ G a env o).st env (qPut1 Φ G k env x)
@[simp] theorem qPut0_ap (a : E) (k : E) (env : Env) (x : D) : qPut0 Φ G a k env x o = (denE Φ G a env o).st env (qPut1 Φ G k env x) := (rfl)
@[simp] theorem dS_oput (a k e : E) : denS Φ G N (.oput a k e) env o = (denE Φ G e env o).st env (qPut0 Φ G a k env) := by
  show (denE Φ G e env o).st env _ = _
  congr 1; funext x o; show (denE Φ G a env o).st env _ = (denE Φ G a env o).st env _
  congr 1; funext y o; show (denE Φ G k env o).st env _ = (denE Φ G k env o).st env _
  congr 1; funext z o
  cases z <;> first | rfl | skip
  rename_i j
  show (match lsO o y with | some ds => (match ixN ds.length j with | some n => RS.nx env (setO o y (ds.set n x)) | none => .bad) | none => .bad) = (R.opt o (lsO o y)).st env (qPut3 env x y j)
  cases lsO o y with
  | none => rfl
  | some ds =>
    show (match ixN ds.length j with | some n => RS.nx env (setO o y (ds.set n x)) | none => .bad) = (R.opt o (ixN ds.length j)).st env (qPut4 env x y ds)
    cases ixN ds.length j <;> rfl
def qRet  (x : D) (o : Obs) : RS := .rt x o
@[simp] theorem qRet_ap  (x : D) : qRet  x o = .rt x o := (rfl)
@[simp] theorem dS_ret (e : E) : denS Φ G N (.ret e) env o = (denE Φ G e env o).st env qRet := (rfl)
@[simp] theorem dS_ret0  : denS Φ G N .ret0 env o = .rt .non o := (rfl)
def qMv  (ds : List D) (o : Obs) : RS := .rt (.lst ds) o
@[simp] theorem qMv_ap  (ds : List D) : qMv  ds o = .rt (.lst ds) o := (rfl)
@[simp] theorem dS_mv (i : Nat) : denS Φ G N (.mv i) env o = (R.opt o (slL env i)).st env qMv := by
  have : denS Φ G N (.mv i) env o = match env[i]? with
    | some (.ol ds) => .rt (.lst ds) o
    | _ => .bad := rfl
  rw [this]; unfold slL
  cases env[i]? with
  | none => rfl
  | some s => cases s <;> rfl
def ifSs (b : Bool) (x y : Ss) (env : Env) (o : Obs) : RS := if b then denSs Φ G N x env o else denSs Φ G N y env o
@[simp] theorem ifSs_t (x y : Ss) : ifSs Φ G N true x y env o = denSs Φ G N x env o := (rfl)
@[simp] theorem ifSs_f (x y : Ss) : ifSs Φ G N false x y env o = denSs Φ G N y env o := (rfl)
def qIfe (a : Ss) (b : Ss) (env : Env) (k : Bool) (o : Obs) : RS := ifSs Φ G N k a b env o
@[simp] theorem qIfe_ap (a : Ss) (b : Ss) (env : Env) (k : Bool) : qIfe Φ G N a b env k o = ifSs Φ G N k a b env o := (rfl)
@[simp] theorem dS_ife (c : E) (a b : Ss) : denS Φ G N (.ife c a b) env o = (denT Φ G c env o).st env (qIfe Φ G N a b env) := (rfl)
@[simp] theorem dS_whl (c : E) (b : Ss) : denS Φ G N (.whl c b) env o = whileD (denT Φ G c) (denSs Φ G N b) N env o := (rfl)
def qFor (tg : Tg) (b : Ss) (env : Env) (ds : List D) (o : Obs) : RS := forD tg (denSs Φ G N b) ds env o
@[simp] theorem qFor_ap (tg : Tg) (b : Ss) (env : Env) (ds : List D) : qFor Φ G N tg b env ds o = forD tg (denSs Φ G N b) ds env o := (rfl)
@[simp] theorem dS_for (tg : Tg) (it : It) (b : Ss) : denS Φ G N (.for_ tg it b) env o = (denI Φ G it env o).st env (qFor Φ G N tg b env) := (rfl)
def qExp (env : Env) (x : D) (o : Obs) : RS := .nx env o
@[simp] theorem qExp_ap (env : Env) (x : D) : qExp env x o = .nx env o := (rfl)
@[simp] theorem dS_exp (e : E) : denS Φ G N (.exp e) env o = (denE Φ G e env o).st env (qExp env) := (rfl)
@[simp] theorem raiseD_int (c : Str) (env : Env) (i : Int) (o : Obs) : raiseD c env (.int i) o = if i.natAbs < 1000000 then .ex c (.int i) env o else .bad := (rfl)
@[simp] theorem dS_rse (c : Str) (e : E) : denS Φ G N (.rse c e) env o = (denE Φ G e env o).st env (raiseD c env) := (rfl)
@[simp] theorem dS_trye (b : Ss) (c : Str) (h : Hd) : denS Φ G N (.trye b c h) env o = tryD c h (denSs Φ G N b env o) := (rfl)
@[simp] theorem tryD_nx (c : Str) (h : Hd) (env : Env) (o : Obs) : tryD c h (.nx env o) = .nx env o := (rfl)
@[simp] theorem tryD_rt (c : Str) (h : Hd) (d : D) (o : Obs) : tryD c h (.rt d o) = .rt d o := (rfl)
@[simp] theorem tryD_bk (c : Str) (h : Hd) (env : Env) (o : Obs) : tryD c h (.bk env o) = .bk env o := (rfl)
@[simp] theorem tryD_ct (c : Str) (h : Hd) (env : Env) (o : Obs) : tryD c h (.ct env o) = .ct env o := (rfl)
@[simp] theorem tryD_bad (c : Str) (h : Hd) : tryD c h .bad = .bad := (rfl)
@[simp] theorem tryD_ex (c : Str) (h : Hd) (a : D) (env : Env) (o : Obs) : tryD c h (.ex c a env o) = denHd h a env o := if_pos rfl
@[simp] theorem denHd_fld (i j : Nat) (k : Int) (env : Env) (o : Obs) : denHd (.fld i j) (.int k) env o = if i < env.length then .nx (((env.set i .un).set j (.v (.int k))).set i .un) o else .bad := (rfl)
@[simp] theorem denHd_set (j : Nat) (d a : D) (env : Env) (o : Obs) : denHd (.set j d) a env o = .nx (env.set j (.v d)) o := by cases a <;> rfl
@[simp] theorem denHd_ret (d a : D) (env : Env) (o : Obs) : denHd (.ret d) a env o = .rt d o := by cases a <;> rfl
@[simp] theorem dS_pass  : denS Φ G N .pass env o = .nx env o := (rfl)
@[simp] theorem dS_brk  : denS Φ G N .brk env o = .bk env o := (rfl)
@[simp] theorem dS_cnt  : denS Φ G N .cnt env o = .ct env o := (rfl)
@[simp] theorem dSs_nil  : denSs Φ G N .nil env o = .nx env o := (rfl)
@[simp] theorem dSs_cons (s : S) (r : Ss) : denSs Φ G N (.cons s r) env o = (denS Φ G N s env o).seq (denSs Φ G N r) := (rfl)
def frzE (i : Nat) (env : Env) : Env := match env[i]? with | some (.ol ds) => env.set i (.v (.lst ds)) | _ => env
@[simp] theorem frzE_zero (d : List D) (l : Env) : frzE 0 (.ol d :: l) = .v (.lst d) :: l := (rfl)
@[simp] theorem frzE_succ (s : Sl) (l : Env) (i : Nat) : frzE (i + 1) (s :: l) = s :: frzE i l := by
  unfold frzE
  rw [List.getElem?_cons_succ]
  cases l[i]? with
  | none => rfl
  | some t => cases t <;> rfl
@[simp] theorem dSs_frz (i : Nat) (r : Ss) : denSs Φ G N (.frz i r) env o = denSs Φ G N r (frzE i env) o := by
  show (match env[i]? with | some (.ol ds) => denSs Φ G N r (env.set i (.v (.lst ds))) o | _ => denSs Φ G N r env o) = _
  unfold frzE
  cases env[i]? with
  | none => rfl
  | some s => cases s <;> rfl
end
/-! ### operators on data of known shape -/
@[simp] theorem bin_add (a b : D) : binD .Add a b = addD a b := (rfl)
@[simp] theorem bin_sub (a b : D) : binD .Sub a b = subD a b := (rfl)
@[simp] theorem bin_mul (a b : D) : binD .Mult a b = mulD a b := (rfl)
@[simp] theorem bin_div (a b : D) : binD .FloorDiv a b = divD a b := (rfl)
@[simp] theorem bin_mod (a b : D) : binD .Mod a b = modD a b := (rfl)
@[simp] theorem bin_pow (a b : D) : binD .Pow a b = powD a b := (rfl)
@[simp] theorem add_int (a b : Int) : addD (.int a) (.int b) = some (.int (a + b)) := (rfl)
@[simp] theorem sub_int (a b : Int) : subD (.int a) (.int b) = some (.int (a - b)) := (rfl)
@[simp] theorem add_tup (a b : List D) : addD (.tup a) (.tup b) = if a.length + b.length ≤ sizeLine then some (.tup (a ++ b)) else none := (rfl)
@[simp] theorem add_lst (a b : List D) : addD (.lst a) (.lst b) = if a.length + b.length ≤ sizeLine then some (.lst (a ++ b)) else none := (rfl)
@[simp] theorem mul_int (a b : Int) : mulD (.int a) (.int b) = cond (mulOk a b) (some (.int (a * b))) none := by
  show (if mulOk a b then _ else _) = _
  cases mulOk a b <;> rfl
@[simp] theorem mod_int (a b : Int) : modD (.int a) (.int b) = if b = 0 then none else some (.int (a.fmod b)) := (rfl)
def divOk (b : Int) : Bool := decide (b ≠ 0 ∧ b.natAbs < 1073741824) || decide (0 < b ∧ b.natAbs.log2 < 9000)
@[simp] theorem div_int (a b : Int) : divD (.int a) (.int b) = cond (divOk b) (some (.int (a.fdiv b))) none := by
  show (if (decide (b ≠ 0 ∧ b.natAbs < 1073741824) || decide (0 < b ∧ b.natAbs.log2 < 9000)) = true then _ else _) = _
  show _ = cond (decide (b ≠ 0 ∧ b.natAbs < 1073741824) || decide (0 < b ∧ b.natAbs.log2 < 9000)) _ _
  cases (decide (b ≠ 0 ∧ b.natAbs < 1073741824) || decide (0 < b ∧ b.natAbs.log2 < 9000)) <;> rfl
@[simp] theorem divOk_s {b : Int} (h0 : ¬ b = 0) (h : b.natAbs < 1073741824) : divOk b = true := by
  unfold divOk
  rw [Bool.or_eq_true]
  exact .inl (decide_eq_true ⟨h0, h⟩)
theorem divOk_w {b : Int} (h0 : 0 < b) (h : b.natAbs.log2 < 9000) : divOk b = true := by
  unfold divOk
  rw [Bool.or_eq_true]
  exact .inr (decide_eq_true ⟨h0, h⟩)
@[simp] theorem divOk_32 : divOk 4294967296 = true := by decide +kernel
@[simp] theorem min_tup (x : Int) (xs : List Int) : biD "min" [.tup ((x :: xs).map .int)] = some (.int (minI x xs)) := by
  show (match intsD _ with | some (x :: xs) => some (D.int (minI x xs)) | _ => none) = _
  rw [intsD_map]
@[simp] theorem cmp_lt (a b : Int) : cmpD .Lt (.int a) (.int b) = some (decide (a < b)) := (rfl)
@[simp] theorem cmp_le (a b : Int) : cmpD .LtE (.int a) (.int b) = some (decide (a ≤ b)) := (rfl)
@[simp] theorem cmp_gt (a b : Int) : cmpD .Gt (.int a) (.int b) = some (decide (b < a)) := (rfl)
@[simp] theorem cmp_ge (a b : Int) : cmpD .GtE (.int a) (.int b) = some (decide (b ≤ a)) := (rfl)
@[simp] theorem cmp_eqI (a b : Int) : cmpD .Eq (.int a) (.int b) = some (decide (a = b)) := by
  show (if (SeqAt.shaped (.int a) && SeqAt.shaped (.int b)) = true then some (PyData.eqv (.int a) (.int b)) else none) = _
  rw [show (SeqAt.shaped (.int a) && SeqAt.shaped (.int b)) = true from rfl, if_pos rfl]
  congr 1
@[simp] theorem cmp_eqB (a b : Bool) : cmpD .Eq (.bl a) (.bl b) = some (a == b) := by
  show (if (SeqAt.shaped (.bool a) && SeqAt.shaped (.bool b)) = true then some (PyData.eqv (.bool a) (.bool b)) else none) = _
  rw [show (SeqAt.shaped (.bool a) && SeqAt.shaped (.bool b)) = true from rfl, if_pos rfl]
  cases a <;> cases b <;> rfl
/-- a text that may be compared -/
def okS (a : Str) : Bool := SeqAt.shaped (.str a)
@[simp] theorem cmp_eqS {a b : Str} (h : okS a = true) (h2 : okS b = true) : cmpD .Eq (.str a) (.str b) = some (a == b) := by
  show (if (okS a && okS b) = true then some (PyData.eqv (.str a) (.str b)) else none) = _
  rw [h, h2, Bool.and_self, if_pos rfl]
  rfl
@[simp] theorem cmp_isN : cmpD .Is .non .non = some true := (rfl)
@[simp] theorem cmp_isB (b : Bool) : cmpD .Is (.bl b) .non = some false := (rfl)
@[simp] theorem cmp_isI (b : Int) : cmpD .Is (.int b) .non = some false := (rfl)
@[simp] theorem cmp_isS (b : Str) : cmpD .Is (.str b) .non = some false := (rfl)
@[simp] theorem cmp_isT (b : List D) : cmpD .Is (.tup b) .non = some false := (rfl)
@[simp] theorem cmp_isL (b : List D) : cmpD .Is (.lst b) .non = some false := (rfl)
@[simp] theorem cmp_nisN : cmpD .IsNot .non .non = some false := (rfl)
@[simp] theorem cmp_nisB (b : Bool) : cmpD .IsNot (.bl b) .non = some true := (rfl)
@[simp] theorem cmp_nisI (b : Int) : cmpD .IsNot (.int b) .non = some true := (rfl)
@[simp] theorem cmp_nisS (b : Str) : cmpD .IsNot (.str b) .non = some true := (rfl)
@[simp] theorem cmp_nisT (b : List D) : cmpD .IsNot (.tup b) .non = some true := (rfl)
@[simp] theorem cmp_nisL (b : List D) : cmpD .IsNot (.lst b) .non = some true := (rfl)
@[simp] theorem cmp_isBB (a b : Bool) : cmpD .Is (.bl a) (.bl b) = some (a == b) := by cases a <;> cases b <;> rfl
@[simp] theorem cmp_nisBB (a b : Bool) : cmpD .IsNot (.bl a) (.bl b) = some (a != b) := by cases a <;> cases b <;> rfl
@[simp] theorem isi_non (t : String) : isiD t .non = some false := (rfl)
@[simp] theorem isi_bl (t : String) (b : Bool) : isiD t (.bl b) = some (t == "bool" || t == "int") := (rfl)
@[simp] theorem isi_int (t : String) (b : Int) : isiD t (.int b) = some (t == "int") := (rfl)
@[simp] theorem isi_str (t : String) (b : Str) : isiD t (.str b) = some (t == "str") := (rfl)
@[simp] theorem isi_tup (t : String) (b : List D) : isiD t (.tup b) = some (t == "tuple") := (rfl)
@[simp] theorem isi_lst (t : String) (b : List D) : isiD t (.lst b) = some (t == "list") := (rfl)
@[simp] theorem cmp_neI (a b : Int) : cmpD .NotEq (.int a) (.int b) = some (!decide (a = b)) := by
  show (cmpD .Eq (.int a) (.int b)).map (!·) = _
  rw [cmp_eqI]; rfl
@[simp] theorem len_tup (a : List D) : biD "len" [.tup a] = some (.int a.length) := (rfl)
@[simp] theorem len_lst (a : List D) : biD "len" [.lst a] = some (.int a.length) := (rfl)
@[simp] theorem len_loc (a : List Int) : biD "len" [.loc a] = some (.int a.length) := (rfl)
@[simp] theorem tuple_lst (a : List D) : biD "tuple" [.lst a] = some (.tup a) := (rfl)
@[simp] theorem tuple_tup (a : List D) : biD "tuple" [.tup a] = some (.tup a) := (rfl)
@[simp] theorem int_int (a : Int) : biD "int" [.int a] = some (.int a) := (rfl)
@[simp] theorem ix_tup (a : List D) (i : Int) : ixD (.tup a) (.int i) = atI a i := (rfl)
@[simp] theorem ix_lst (a : List D) (i : Int) : ixD (.lst a) (.int i) = atI a i := (rfl)
@[simp] theorem sl_tup (a : List D) (l h : Option Int) : slD (.tup a) l h = some (.tup (cutD a l h)) := (rfl)
@[simp] theorem sl_lst (a : List D) (l h : Option Int) : slD (.lst a) l h = some (.lst (cutD a l h)) := (rfl)
@[simp] theorem sl_loc (a : List Int) (l h : Option Int) : slD (.loc a) l h = some (.lst (cutD (a.map .int) l h)) := (rfl)
@[simp] theorem sizeLine_eq : sizeLine = 16777216 := by decide +kernel
@[simp] theorem rev_tup (a : List D) : revD (.tup a) = if a.length ≤ 1000000 then some (.tup a.reverse) else none := (rfl)
@[simp] theorem rev_lst (a : List D) : revD (.lst a) = some (.lst a.reverse) := (rfl)
@[simp] theorem str_int (a : Int) : biD "str" [.int a] = if a.natAbs.log2 < 1920 then some (.str (toString a)) else none := (rfl)
@[simp] theorem tru_bl (b : Bool) : truD (.bl b) = some b := (rfl)
@[simp] theorem tru_non : truD .non = some false := (rfl)
@[simp] theorem R.opt_ite {α : Type} (o : Obs) (c : Prop) [Decidable c] (a : α) : R.opt o (if c then some a else none) = ifK (decide c) (.ok a o) .bad := by
  by_cases h : c <;> simp [h]
@[simp] theorem R.opt_map {α β : Type} (o : Obs) (f : α → β) (x : Option α) : R.opt o (x.map f) = (R.opt o x).map f := by cases x <;> rfl
theorem R.map_bind {α β γ : Type} (x : R α) (f : α → β) (k : β → Obs → R γ) : (x.map f).bind k = x.bind fun a o => k (f a) o := by cases x <;> rfl
end Mp
namespace Mp
open PySem PySem.Spec PyProof.Rows L2
/-! ### calls -/
def endR (x : RS) : R D := match x with
  | .rt d o => .ok d o
  | .nx _ o => .ok .non o
  | .ex c a _ o => .ex c a o
  | _ => .bad
@[simp] theorem endR_ex (c : Str) (d : D) (e : Env) (o : Obs) : endR (.ex c d e o) = .ex c d o := (rfl)
@[simp] theorem endR_rt (d : D) (o : Obs) : endR (.rt d o) = .ok d o := (rfl)
@[simp] theorem endR_nx (d : Env) (o : Obs) : endR (.nx d o) = .ok .non o := (rfl)
theorem endR_wp {x : RS} {P : D → Obs → Prop} (h : x.wp { nx := fun _ o => P .non o, rt := P }) : (endR x).wp P := by
  cases x <;> exact h
theorem runFn_eq {f : Fn} {Φ : Str → List D → Obs → R D} {G : Str → Option D} {N : Nat} {ds : List D} {o : Obs} (h : ds.length = f.ps) : runFn f Φ G N ds o = endR (denSs Φ G N f.body (ds.map .v ++ List.replicate (f.sl - f.ps) .un) o) := by
  unfold runFn
  rw [if_pos h]; rfl
theorem lookup_at {β : Type} : ∀ {l : List (Str × β)} {i : Nat} {x : Str} {e : β}, (l.map (·.1)).Nodup → l[i]? = some (x, e) → l.lookup x = some e
  | [], _, _, _, _, h => by simp at h
  | (y, d) :: r, 0, x, e, n, h => by
    simp at h
    obtain ⟨rfl, rfl⟩ := h
    simp [List.lookup_cons]
  | (y, d) :: r, i + 1, x, e, n, h => by
    simp only [List.map_cons, List.nodup_cons] at n
    have h' : r[i]? = some (x, e) := by simpa using h
    rw [List.lookup_cons]
    have : (x == y) = false := by
      simp only [beq_eq_false_iff_ne, ne_eq]
      rintro rfl
      exact n.1 (List.mem_map.mpr ⟨_, List.mem_of_getElem? h', rfl⟩)
    rw [this]
    exact lookup_at n.2 h'
theorem call_succ {Q : Pg} {M n i : Nat} {f : Str} {e : Fn} (hn : (Q.fn.map (·.1)).Nodup) (h : Q.fn[i]? = some (f, e)) (ds : List D) (o : Obs) (hl : ds.length = e.ps) :
    Q.call M (n + 1) f ds o = endR (denSs (Q.call M n) (fun x => Q.gl.lookup x) M e.body (ds.map .v ++ List.replicate (e.sl - e.ps) .un) o) := by
  show (match Q.fn.lookup f with
    | some e => runFn e (Q.call M n) (fun x => Q.gl.lookup x) M ds o
    | none => _) = _
  rw [lookup_at hn h]
  exact runFn_eq hl
end Mp

set_option Elab.async false
set_option linter.all false
set_option maxRecDepth 100000
set_option maxHeartbeats 4000000
/-! Rules for loops and comprehensions; parts of lists. -/
namespace Mp
open PySem PySem.Spec PyProof.Rows L2

/-! ### parts of lists -/
theorem ixN_nat {n k : Nat} (h : k < n) : ixN n (k : Int) = some k := by
  unfold ixN
  rw [if_pos (by omega), if_pos (by omega)]; simp
theorem atI_nat {α : Type} {l : List α} {k : Nat} (h : k < l.length) : atI l (k : Int) = l[k]? := by
  unfold atI
  rw [ixN_nat h]; rfl
theorem atI_get {α : Type} {l : List α} {i : Int} (h : 0 ≤ i) (h2 : i < l.length) : atI l i = some (l[i.toNat]'(by omega)) := by
  obtain ⟨k, rfl⟩ := Int.eq_ofNat_of_zero_le h
  rw [atI_nat (by omega)]
  simp only [Int.toNat_natCast]
  exact List.getElem?_eq_getElem (by omega)
@[simp] theorem atI_0 {α : Type} (x : α) (l : List α) : atI (x :: l) 0 = some x := by
  have := atI_nat (l := x :: l) (k := 0) (by simp)
  simpa using this
@[simp] theorem atI_1 {α : Type} (x y : α) (l : List α) : atI (x :: y :: l) 1 = some y := by
  have := atI_nat (l := x :: y :: l) (k := 1) (by simp)
  simpa using this
@[simp] theorem atI_2 {α : Type} (x y z : α) (l : List α) : atI (x :: y :: z :: l) 2 = some z := by
  have := atI_nat (l := x :: y :: z :: l) (k := 2) (by simp)
  simpa using this
@[simp] theorem atI_3 {α : Type} (x y z u : α) (l : List α) : atI (x :: y :: z :: u :: l) 3 = some u := by
  have := atI_nat (l := x :: y :: z :: u :: l) (k := 3) (by simp)
  simpa using this
theorem atI_mem {α : Type} {l : List α} {i : Int} (h : 0 ≤ i) (h2 : i < l.length) : ∃ x, atI l i = some x ∧ x ∈ l := ⟨_, atI_get h h2, List.getElem_mem _⟩
theorem sIx_hi (n d : Nat) {k : Int} (h : 0 ≤ k) : HT.sIx n d (some k) = min k.toNat n := by
  show (if k < 0 then (k + n).toNat else min k.toNat n) = _
  rw [if_neg (by omega)]
theorem cut_to {ds : List D} {k : Int} (h : 0 ≤ k) : cutD ds none (some k) = ds.take k.toNat := by
  unfold cutD
  rw [sIx_hi _ _ h]
  show (ds.drop 0).take (min k.toNat ds.length - 0) = _
  rw [List.drop_zero, Nat.sub_zero]
  by_cases q : k.toNat ≤ ds.length
  · rw [Nat.min_eq_left q]
  · rw [Nat.min_eq_right (by omega), List.take_of_length_le (Nat.le_refl _), List.take_of_length_le (by omega)]
theorem cut_from {ds : List D} {k : Int} (h : 0 ≤ k) : cutD ds (some k) none = ds.drop k.toNat := by
  unfold cutD
  rw [sIx_hi _ _ h]
  show (ds.drop (min k.toNat ds.length)).take (ds.length - min k.toNat ds.length) = _
  rw [List.take_of_length_le (by simp)]
  by_cases q : k.toNat ≤ ds.length
  · rw [Nat.min_eq_left q]
  · rw [Nat.min_eq_right (by omega), List.drop_of_length_le (Nat.le_refl _), List.drop_of_length_le (by omega)]
theorem cut_mid {ds : List D} {i k : Int} (h : 0 ≤ i) (h2 : i ≤ k) : cutD ds (some i) (some k) = (ds.drop i.toNat).take (k.toNat - i.toNat) := by
  unfold cutD
  rw [sIx_hi _ _ h, sIx_hi _ _ (by omega)]
  by_cases q : i.toNat ≤ ds.length
  · rw [Nat.min_eq_left q]
    by_cases q2 : k.toNat ≤ ds.length
    · rw [Nat.min_eq_left q2]
    · rw [Nat.min_eq_right (by omega), List.take_of_length_le (by simp), List.take_of_length_le (by simp; omega)]
  · rw [Nat.min_eq_right (a := i.toNat) (by omega), List.drop_of_length_le (Nat.le_refl _), List.drop_of_length_le (by omega)]
    simp
theorem cut_last {ds : List D} : cutD ds none (some (-1)) = ds.dropLast := by
  unfold cutD
  show (ds.drop 0).take ((-1 + (ds.length : Int)).toNat - 0) = _
  rw [List.drop_zero, List.dropLast_eq_take]
  congr 1; omega
@[simp] theorem cut_tail1 (x : D) (l : List D) : cutD (x :: l) (some 1) none = l := by rw [cut_from (by decide)]; rfl
@[simp] theorem cut_tail2 (x y : D) (l : List D) : cutD (x :: y :: l) (some 2) none = l := by rw [cut_from (by decide)]; rfl
@[simp] theorem mulOk_r {a b : Int} (h : b.natAbs < 18446744073709551616) : mulOk a b = true := by
  unfold mulOk
  simp [h]
theorem mulOk_l {a b : Int} (h : a.natAbs < 18446744073709551616) : mulOk a b = true := by
  unfold mulOk
  simp [h]
theorem rangeD_len (lo : Int) (n : Nat) (c : Int) : (rangeD lo n c).length = n := by simp [rangeD]
theorem rangeD_at {lo : Int} {n i : Nat} {c : Int} {d : D} (h : (rangeD lo n c)[i]? = some d) : i < n ∧ d = .int (lo + (i : Nat) * c) := by
  have hi : i < n := by
    have := (List.getElem?_eq_some_iff.mp h).1
    simpa [rangeD_len] using this
  refine ⟨hi, ?_⟩
  simp [rangeD, hi] at h
  exact h.symm
theorem rangeD_succ (lo : Int) (n : Nat) (c : Int) : rangeD lo (n + 1) c = .int lo :: rangeD (lo + c) n c := by
  unfold rangeD
  rw [List.range_succ_eq_map, List.map_cons, List.map_map]
  congr 1
  · simp
  · apply List.map_congr_left
    intro i _
    show D.int (lo + ((i + 1 : Nat) : Int) * c) = .int (lo + c + (i : Int) * c)
    congr 1
    push_cast
    rw [Int.add_mul]; omega
/-! ### comprehensions -/
theorem lcD_map {own : List Nat} {tg : Tg} {t : Env → Obs → R Bool} {x : Env → Obs → R D} {env : Env} {o : Obs} {p : D → Bool} {f : D → D} : ∀ {ds acc : List D}, ds.length + acc.length ≤ sizeLine →
    (∀ d ∈ ds, ∃ e, setTg tg d (wipeE env own) = some e ∧ t e o = .ok (p d) o ∧ (p d = true → x e o = .ok (f d) o)) → lcD own tg t x env ds acc o = .ok (acc ++ (ds.filter p).map f) o
  | [], acc, _, _ => by simp [lcD]
  | d :: ds, acc, hl, h => by
    obtain ⟨e, h1, h2, h3⟩ := h d List.mem_cons_self
    have ih := fun acc' hl' => lcD_map (ds := ds) (acc := acc') hl' fun d' hd => h d' (List.mem_cons_of_mem _ hd)
    unfold lcD
    rw [h1]
    simp only [h2, R.noex_ok, R.bind_ok]
    simp only [List.length_cons, sizeLine_eq] at hl ih ⊢
    cases hp : p d with
    | false =>
      simp only [Bool.false_eq_true, if_false]
      rw [ih acc (by omega), List.filter_cons_of_neg (by simp [hp])]
    | true =>
      simp only [if_true, h3 hp, R.noex_ok, R.bind_ok]
      rw [if_pos (by omega), ih (acc ++ [f d]) (by simp; omega), List.filter_cons_of_pos (by simp [hp])]
      simp
theorem lcD_wp {own : List Nat} {tg : Tg} {t : Env → Obs → R Bool} {x : Env → Obs → R D} {env : Env} {P : List D → Obs → Prop} (J : Nat → List D → Obs → Prop) : ∀ {ds acc : List D} {o : Obs} {i : Nat}, J i acc o →
    (∀ j d acc o, ds[j]? = some d → J (i + j) acc o → ∃ e, setTg tg d (wipeE env own) = some e ∧ (t e o).wp fun b o1 => if b = true then (x e o1).wp fun y o2 => acc.length < sizeLine ∧ J (i + j + 1) (acc ++ [y]) o2 else J (i + j + 1) acc o1) →
    (∀ acc o, J (i + ds.length) acc o → P acc o) → (lcD own tg t x env ds acc o).wp P
  | [], acc, o, i, h, _, fin => by
    unfold lcD
    exact fin acc o h
  | d :: ds, acc, o, i, h, step, fin => by
    obtain ⟨e, h1, h2⟩ := step 0 d acc o rfl h
    unfold lcD
    rw [h1]
    simp only
    obtain ⟨b, o1, h3, h4⟩ := R.wp_eq h2
    rw [h3]
    simp only [R.noex_ok, R.bind_ok]
    have ih := fun acc' o' (h' : J (i + 1) acc' o') => lcD_wp (own := own) (tg := tg) (t := t) (x := x) (env := env) (P := P) J (ds := ds) (acc := acc') (o := o') (i := i + 1) h'
      (fun j d' acc'' o'' hj hJ => by
        have := step (j + 1) d' acc'' o'' (by simpa using hj) (by rw [show i + (j + 1) = i + 1 + j from by omega]; exact hJ)
        rw [show i + (j + 1) = i + 1 + j from by omega] at this
        exact this)
      (fun acc'' o'' hJ => fin acc'' o'' (by rw [List.length_cons, show i + (ds.length + 1) = i + 1 + ds.length from by omega]; exact hJ))
    cases b with
    | false =>
      simp only [Bool.false_eq_true, if_false] at h4 ⊢
      exact ih acc o1 h4
    | true =>
      simp only [if_true] at h4 ⊢
      obtain ⟨y, o2, h5, h6, h7⟩ := R.wp_eq h4
      rw [h5]
      simp only [R.noex_ok, R.bind_ok]
      rw [if_pos h6]
      exact ih (acc ++ [y]) o2 h7
/-! ### loops -/
theorem forD_wp {tg : Tg} {b : Env → Obs → RS} {P : Pt} (J : Nat → Env → Obs → Prop) : ∀ {ds : List D} {env : Env} {o : Obs} {i : Nat}, J i env o →
    (∀ j d env o, ds[j]? = some d → J (i + j) env o → ∃ e, setTg tg d env = some e ∧ (b e o).wp { nx := J (i + j + 1), ct := J (i + j + 1), bk := P.nx, rt := P.rt }) →
    (∀ env o, J (i + ds.length) env o → P.nx env o) → (forD tg b ds env o).wp P
  | [], env, o, i, h, _, fin => by
    unfold forD
    exact fin env o h
  | d :: ds, env, o, i, h, step, fin => by
    obtain ⟨e, h1, h2⟩ := step 0 d env o rfl h
    unfold forD
    rw [h1]
    simp only
    have ih := fun env' o' (h' : J (i + 1) env' o') => forD_wp (tg := tg) (b := b) (P := P) J (ds := ds) (env := env') (o := o') (i := i + 1) h'
      (fun j d' acc'' o'' hj hJ => by
        have := step (j + 1) d' acc'' o'' (by simpa using hj) (by rw [show i + (j + 1) = i + 1 + j from by omega]; exact hJ)
        rw [show i + (j + 1) = i + 1 + j from by omega] at this
        exact this)
      (fun acc'' o'' hJ => fin acc'' o'' (by rw [List.length_cons, show i + (ds.length + 1) = i + 1 + ds.length from by omega]; exact hJ))
    cases hb : b e o with
    | nx e' o' => rw [hb] at h2; exact ih e' o' h2
    | ct e' o' => rw [hb] at h2; exact ih e' o' h2
    | bk e' o' => rw [hb] at h2; exact h2
    | rt d' o' => rw [hb] at h2; exact h2
    | ex cc a e' o' => rw [hb] at h2; exact h2.elim
    | bad => rw [hb] at h2; exact h2.elim
/-- a while: J k holds where k turns at most are left -/
theorem whileD_wp {c : Env → Obs → R Bool} {b : Env → Obs → RS} {P : Pt} (J : Nat → Env → Obs → Prop)
    (step : ∀ k env o, J k env o → (c env o).wp fun t o1 => if t = true then ∃ k', k = k' + 1 ∧ (b env o1).wp { nx := J k', ct := J k', bk := P.nx, rt := P.rt } else P.nx env o1) : ∀ {k n : Nat} {env : Env} {o : Obs}, k < n → J k env o → (whileD c b n env o).wp P
  | k, 0, _, _, h, _ => absurd h (Nat.not_lt_zero _)
  | k, n + 1, env, o, h, hJ => by
    unfold whileD
    obtain ⟨t, o1, h1, h2⟩ := R.wp_eq (step k env o hJ)
    rw [h1]
    simp only [R.st_ok]
    cases t with
    | false =>
      simp only [Bool.false_eq_true, if_false] at h2 ⊢
      exact h2
    | true =>
      simp only [if_true] at h2 ⊢
      obtain ⟨k', rfl, h3⟩ := h2
      have ih := fun env' o' => whileD_wp (P := P) J step (k := k') (n := n) (env := env') (o := o') (by omega)
      cases hb : b env o1 with
      | nx e' o' => rw [hb] at h3; exact ih e' o' h3
      | ct e' o' => rw [hb] at h3; exact ih e' o' h3
      | bk e' o' => rw [hb] at h3; exact h3
      | rt d' o' => rw [hb] at h3; exact h3
      | ex cc a e' o' => rw [hb] at h3; exact h3.elim
      | bad => rw [hb] at h3; exact h3.elim
theorem R.of_wp {α : Type} {x : R α} {a : α} {o : Obs} (h : x.wp fun b o' => b = a ∧ o' = o) : x = .ok a o := by
  obtain ⟨b, o', e, rfl, rfl⟩ := R.wp_eq h
  exact e
theorem endR_seq {x : RS} {f : Env → Obs → RS} {d : D} {o : Obs} (h : x.wp { nx := fun e o' => (endR (f e o')).wp fun b o'' => b = d ∧ o'' = o, rt := fun b o' => b = d ∧ o' = o }) : endR (x.seq f) = .ok d o := by
  refine R.of_wp (endR_wp ?_)
  refine RS.wp_seq (RS.wp_imp h (fun e o' h => ?_) (fun _ _ h => h) (fun _ _ h => h) (fun _ _ h => h))
  obtain ⟨b, o'', e1, rfl, rfl⟩ := R.wp_eq h
  cases q : f e o' with
  | rt d o => rw [q] at e1; cases e1; unfold RS.wp; simp only [q, and_self]
  | nx d o => rw [q] at e1; cases e1; unfold RS.wp; simp only [q, and_self]
  | _ => rw [q] at e1; cases e1
/-! ### plain data -/
mutual
def plainD : D → Bool
  | .non => true | .bl _ => true | .int _ => true | .str x => okS x
  | .tup ds => plainDs ds && decide (ds.length < 16777216)
  | .lst ds => plainDs ds && decide (ds.length < 16777216)
  | _ => false
def plainDs : List D → Bool
  | [] => true
  | d :: ds => plainD d && plainDs ds
end
mutual
def depD : D → Nat
  | .tup ds => depDs ds + 1
  | .lst ds => depDs ds + 1
  | _ => 0
def depDs : List D → Nat
  | [] => 0
  | d :: ds => max (depD d) (depDs ds)
end
theorem plainDs_get : ∀ {ds : List D} {d : D}, plainDs ds = true → d ∈ ds → plainD d = true
  | e :: ds, d, h, m => by
    simp only [plainDs, Bool.and_eq_true] at h
    rcases List.mem_cons.mp m with rfl | m
    · exact h.1
    · exact plainDs_get h.2 m
theorem plainDs_of : ∀ {ds : List D}, (∀ d ∈ ds, plainD d = true) → plainDs ds = true
  | [], _ => rfl
  | d :: ds, h => by
    simp only [plainDs, Bool.and_eq_true]
    exact ⟨h d List.mem_cons_self, plainDs_of fun e he => h e (List.mem_cons_of_mem _ he)⟩
theorem depDs_get : ∀ {ds : List D} {d : D}, d ∈ ds → depD d ≤ depDs ds
  | e :: ds, d, m => by
    simp only [depDs]
    rcases List.mem_cons.mp m with rfl | m
    · exact Nat.le_max_left _ _
    · exact Nat.le_trans (depDs_get m) (Nat.le_max_right _ _)
theorem depDs_le : ∀ {ds : List D} {k : Nat}, (∀ d ∈ ds, depD d ≤ k) → depDs ds ≤ k
  | [], _, _ => Nat.zero_le _
  | d :: ds, k, h => by
    simp only [depDs]
    exact Nat.max_le.mpr ⟨h d List.mem_cons_self, depDs_le fun e he => h e (List.mem_cons_of_mem _ he)⟩
@[simp] theorem smallI_nat (n : Nat) (h : n < 16777216) : smallI (n : Int) = true := by
  unfold smallI
  exact decide_eq_true (by omega)
theorem bls_true : ∀ (n : Nat) (l : List D), l.length = n → blsD (l.map fun _ => D.bl true) = some (List.replicate n true)
  | 0, [], _ => rfl
  | n + 1, d :: l, h => by
    simp only [List.map_cons, blsD, bls_true n l (by simpa using h), Option.map_some, List.replicate_succ]
theorem filter_true {α : Type} (l : List α) : l.filter (fun _ => true) = l := by simp
@[simp] theorem all_repl (n : Nat) (l : List D) (h : l.length = n) : biD "all" [.lst (l.map fun _ => D.bl true)] = some (.bl true) := by
  show (blsD _).map _ = _
  rw [bls_true n l h]
  simp

theorem blsD_mapP {α : Type} (p : α → Bool) : ∀ l : List α, blsD (l.map fun d => D.bl (p d)) = some (l.map p)
  | [] => rfl
  | d :: l => by simp [blsD, blsD_mapP p l]
theorem all_mapD {α : Type} (l : List α) (p : α → Bool) : biD "all" [.lst (l.map fun d => D.bl (p d))] = some (.bl (l.all p)) := by
  show (blsD _).map _ = _
  rw [blsD_mapP]
  simp [List.all_map]
theorem all_trueD {α : Type} (l : List α) : biD "all" [.lst (l.map fun _ => D.bl true)] = some (.bl true) := by
  rw [all_mapD l fun _ => true, List.all_eq_true.mpr fun _ _ => rfl]
theorem any_mapD {α : Type} (l : List α) (p : α → Bool) : biD "any" [.lst (l.map fun d => D.bl (p d))] = some (.bl (l.any p)) := by
  show (blsD _).map _ = _
  rw [blsD_mapP]
  simp [List.any_map]
theorem all_lst (l : List D) : biD "all" [.lst l] = (blsD l).map fun ns => .bl (ns.all id) := rfl
theorem any_lst (l : List D) : biD "any" [.lst l] = (blsD l).map fun ns => .bl (ns.any id) := rfl
/-! equality of plain data -/
mutual
def eqvD : D → D → Bool
  | .non, .non => true
  | .bl a, .bl b => a == b
  | .bl a, .int j => (if a then 1 else 0) == j
  | .int i, .bl b => i == (if b then 1 else 0)
  | .int i, .int j => i == j
  | .str x, .str y => x == y
  | .lst xs, .lst ys => eqvDs xs ys
  | .tup xs, .tup ys => eqvDs xs ys
  | _, _ => false
def eqvDs : List D → List D → Bool
  | [], [] => true
  | x :: xs, y :: ys => eqvD x y && eqvDs xs ys
  | _, _ => false
end
mutual
theorem toP_plain : ∀ {d : D}, plainD d = true → ∃ x, toP d = some x ∧ PyData.canLay0 x = true ∧ PyData.depth x = depD d
  | .non, _ => ⟨_, rfl, rfl, rfl⟩
  | .bl _, _ => ⟨_, rfl, rfl, rfl⟩
  | .int _, _ => ⟨_, rfl, rfl, rfl⟩
  | .str x, h => ⟨_, rfl, by
      have h : okS x = true := by simpa only [plainD] using h
      exact SeqAt.canLay_of_shaped h, rfl⟩
  | .tup ds, h => by
    simp only [plainD, Bool.and_eq_true] at h
    obtain ⟨xs, e, a, b⟩ := toPs_plain h.1
    exact ⟨.tuple xs, by simp [toP, e], by simpa only [PyData.canLay0] using a, by simp only [PyData.depth, depD, b]⟩
  | .lst ds, h => by
    simp only [plainD, Bool.and_eq_true] at h
    obtain ⟨xs, e, a, b⟩ := toPs_plain h.1
    exact ⟨.list xs, by simp [toP, e], by simpa only [PyData.canLay0] using a, by simp only [PyData.depth, depD, b]⟩
  | .ty _, h => by simp [plainD] at h
  | .dic _, h => by simp [plainD] at h
  | .obj _, h => by simp [plainD] at h
  | .loc _, h => by simp [plainD] at h
theorem toPs_plain : ∀ {ds : List D}, plainDs ds = true → ∃ xs, toPs ds = some xs ∧ PyData.canLayAll0 xs = true ∧ PyData.depthAll xs = depDs ds
  | [], _ => ⟨_, rfl, rfl, rfl⟩
  | d :: ds, h => by
    simp only [plainDs, Bool.and_eq_true] at h
    obtain ⟨x, e1, a1, b1⟩ := toP_plain h.1
    obtain ⟨xs, e2, a2, b2⟩ := toPs_plain h.2
    exact ⟨x :: xs, by simp [toPs, e1, e2], by simp only [PyData.canLayAll0, a1, a2]; rfl, by simp only [PyData.depthAll, depDs, b1, b2]⟩
end
mutual
theorem eqv_toP : ∀ {a b : D} {x y : PyData}, toP a = some x → toP b = some y → PyData.eqv x y = eqvD a b
  | .tup as, b, x, y, h1, h2 => by
    simp only [toP, Option.map_eq_some_iff] at h1
    obtain ⟨xs, e1, rfl⟩ := h1
    cases b with
    | tup bs =>
      simp only [toP, Option.map_eq_some_iff] at h2
      obtain ⟨ys, e2, rfl⟩ := h2
      simp only [PyData.eqv, eqvD]
      exact eqv_toPs e1 e2
    | lst bs =>
      simp only [toP, Option.map_eq_some_iff] at h2
      obtain ⟨ys, e2, rfl⟩ := h2
      simp only [PyData.eqv, eqvD]
    | non => cases h2; simp only [PyData.eqv, eqvD]
    | bl _ => cases h2; simp only [PyData.eqv, eqvD]
    | int _ => cases h2; simp only [PyData.eqv, eqvD]
    | str _ => cases h2; simp only [PyData.eqv, eqvD]
    | _ => simp [toP] at h2
  | .lst as, b, x, y, h1, h2 => by
    simp only [toP, Option.map_eq_some_iff] at h1
    obtain ⟨xs, e1, rfl⟩ := h1
    cases b with
    | lst bs =>
      simp only [toP, Option.map_eq_some_iff] at h2
      obtain ⟨ys, e2, rfl⟩ := h2
      simp only [PyData.eqv, eqvD]
      exact eqv_toPs e1 e2
    | tup bs =>
      simp only [toP, Option.map_eq_some_iff] at h2
      obtain ⟨ys, e2, rfl⟩ := h2
      simp only [PyData.eqv, eqvD]
    | non => cases h2; simp only [PyData.eqv, eqvD]
    | bl _ => cases h2; simp only [PyData.eqv, eqvD]
    | int _ => cases h2; simp only [PyData.eqv, eqvD]
    | str _ => cases h2; simp only [PyData.eqv, eqvD]
    | _ => simp [toP] at h2
  | .non, b, x, y, h1, h2 => by
    cases h1
    cases b <;> first | (cases h2; simp only [PyData.eqv, eqvD]) | (simp only [toP, Option.map_eq_some_iff] at h2; obtain ⟨ys, e2, rfl⟩ := h2; simp only [PyData.eqv, eqvD]) | (simp [toP] at h2)
  | .bl _, b, x, y, h1, h2 => by
    cases h1
    cases b <;> first | (cases h2; simp only [PyData.eqv, eqvD]) | (simp only [toP, Option.map_eq_some_iff] at h2; obtain ⟨ys, e2, rfl⟩ := h2; simp only [PyData.eqv, eqvD]) | (simp [toP] at h2)
  | .int _, b, x, y, h1, h2 => by
    cases h1
    cases b <;> first | (cases h2; simp only [PyData.eqv, eqvD]) | (simp only [toP, Option.map_eq_some_iff] at h2; obtain ⟨ys, e2, rfl⟩ := h2; simp only [PyData.eqv, eqvD]) | (simp [toP] at h2)
  | .str _, b, x, y, h1, h2 => by
    cases h1
    cases b <;> first | (cases h2; simp only [PyData.eqv, eqvD]) | (simp only [toP, Option.map_eq_some_iff] at h2; obtain ⟨ys, e2, rfl⟩ := h2; simp only [PyData.eqv, eqvD]) | (simp [toP] at h2)
  | .ty _, _, _, _, h, _ => by simp [toP] at h
  | .dic _, _, _, _, h, _ => by simp [toP] at h
  | .obj _, _, _, _, h, _ => by simp [toP] at h
  | .loc _, _, _, _, h, _ => by simp [toP] at h
theorem eqv_toPs : ∀ {a b : List D} {x y : List PyData}, toPs a = some x → toPs b = some y → PyData.eqvAll x y = eqvDs a b
  | [], [], x, y, h1, h2 => by cases h1; cases h2; simp only [PyData.eqvAll, eqvDs]
  | [], d :: ds, x, y, h1, h2 => by
    cases h1
    simp only [toPs, Option.bind_eq_bind, Option.bind_eq_some_iff, Option.some.injEq] at h2
    obtain ⟨u, _, us, _, rfl⟩ := h2
    simp only [PyData.eqvAll, eqvDs]
  | d :: ds, [], x, y, h1, h2 => by
    cases h2
    simp only [toPs, Option.bind_eq_bind, Option.bind_eq_some_iff, Option.some.injEq] at h1
    obtain ⟨u, _, us, _, rfl⟩ := h1
    simp only [PyData.eqvAll, eqvDs]
  | d :: ds, e :: es, x, y, h1, h2 => by
    simp only [toPs, Option.bind_eq_bind, Option.bind_eq_some_iff, Option.some.injEq] at h1 h2
    obtain ⟨u, a1, us, b1, rfl⟩ := h1
    obtain ⟨w, a2, ws, b2, rfl⟩ := h2
    simp only [PyData.eqvAll, eqvDs]
    rw [eqv_toP a1 a2, eqv_toPs b1 b2]
end
theorem tupP {ds : List D} {k : Nat} (h : ∀ e ∈ ds, plainD e = true ∧ depD e ≤ k) (hl : ds.length < 16777216) : plainD (.tup ds) = true ∧ depD (.tup ds) ≤ k + 1 := by
  refine ⟨?_, ?_⟩
  · simp only [plainD, Bool.and_eq_true, decide_eq_true_eq]
    exact ⟨plainDs_of fun e he => (h e he).1, hl⟩
  · simp only [depD]
    exact Nat.succ_le_succ (depDs_le fun e he => (h e he).2)
/-- plain data that are not too deep -/
def okD (d : D) : Bool := plainD d && decide (depD d ≤ 64)
theorem eq_okD {a b : D} (h1 : okD a = true) (h2 : okD b = true) : cmpD .Eq a b = some (eqvD a b) := by
  unfold okD at h1 h2
  rw [Bool.and_eq_true, decide_eq_true_eq] at h1 h2
  obtain ⟨x, e1, c1, d1⟩ := toP_plain h1.1
  obtain ⟨y, e2, c2, d2⟩ := toP_plain h2.1
  have s1 : SeqAt.shaped x = true := by
    unfold SeqAt.shaped
    rw [c1, d1]; simpa using h1.2
  have s2 : SeqAt.shaped y = true := by
    unfold SeqAt.shaped
    rw [c2, d2]; simpa using h2.2
  show eqD a b = _
  unfold eqD
  rw [e1, e2]
  show (if (SeqAt.shaped x && SeqAt.shaped y) = true then some (PyData.eqv x y) else none) = _
  rw [s1, s2, Bool.and_self, if_pos rfl, eqv_toP e1 e2]
theorem ne_okD {a b : D} (h1 : okD a = true) (h2 : okD b = true) : cmpD .NotEq a b = some (!eqvD a b) := by
  show (cmpD .Eq a b).map (!·) = _
  rw [eq_okD h1 h2]; rfl
theorem okD_int (i : Int) : okD (.int i) = true := rfl
theorem eqvDs_ints : ∀ {as bs : List Int}, eqvDs (as.map .int) (bs.map .int) = decide (as = bs)
  | [], [] => by simp [eqvDs]
  | [], _ :: _ => by simp [eqvDs]
  | _ :: _, [] => by simp [eqvDs]
  | a :: as, b :: bs => by
    simp only [List.map_cons, eqvDs, eqvD, eqvDs_ints]
    by_cases h : a = b <;> simp [h]
end Mp

set_option Elab.async false
set_option linter.all false
set_option maxRecDepth 100000
namespace Mp
open PySem PySem.Spec PyProof.Rows L2
/-! ### the terms of the text (printed) -/
def lawM : Nat := 5000
def lawN : Nat := 30
def top (i : Nat) : Stmt := PySem.Challenge.pw_wireagreed_k13_whole_how_far_clocks_diff.main.body.getD i (.Pass ⟨0, 0, 0, 0⟩)
def fs : List Str := [("is_whole" : Str), ("divisor_of" : Str), ("ratio_of" : Str), ("is_ratio" : Str), ("sum_of" : Str), ("less_of" : Str), ("times_of" : Str), ("is_below" : Str), ("floor_of" : Str), ("bit_parts" : Str), ("heard_at" : Str), ("jump_of" : Str), ("not_above" : Str), ("holds" : Str), ("over" : Str), ("clock_range" : Str), ("wire_at" : Str), ("edge_between" : Str), ("moved_begin" : Str), ("heard_by" : Str), ("wrong_row" : Str), ("_law_mix" : Str), ("_law_tape" : Str), ("_law_take" : Str), ("_law_same" : Str), ("_law_timing" : Str), ("_law_hears" : Str), ("_law_clock" : Str), ("_law_row" : Str), ("_law_low" : Str), ("_law_holds" : Str), ("law" : Str)]
def bs : List Str := ["abs", "all", "bool", "int", "isinstance", "len", "list", "max", "min", "range", "str", "tuple"]
def n_is_whole : List Str := ["value"]
def m_is_whole : Ss := (.cons (.ret (.con (.cons (.isi (.var 0) "int") (.cons (.not (.isi (.var 0) "bool")) .nil)))) .nil)
def e_is_whole : Fn := ⟨1, 1, m_is_whole⟩
theorem c_is_whole : chkSs fs bs n_is_whole (defScope (top 1)) m_is_whole (defBody (top 1)) = true := by decide +kernel
theorem s_is_whole : FnScope n_is_whole ["value"] (defScope (top 1)) := ⟨by decide +kernel, by decide +kernel, by decide +kernel, by decide +kernel, by decide +kernel, by decide +kernel, by decide +kernel⟩
theorem d_is_whole : DTxt fs bs "is_whole" (top 1) n_is_whole ["value"] e_is_whole := ⟨s_is_whole, rfl, rfl, by decide, c_is_whole, fun kV doc pm an cdv ct us hl => match us, hl with | [_], _ => rfl⟩
def n_divisor_of : List Str := ["a", "b"]
def w_divisor_of_0 : Ss := (.cons (.par [0, 1] [.inl (.var 1), .inl (.bin .Mod (.var 0) (.var 1))]) .nil)
def m_divisor_of : Ss := (.cons (.par [0, 1] [.inl (.bi "abs" (.cons (.var 0) .nil)), .inl (.bi "abs" (.cons (.var 1) .nil))]) (.cons (.whl (.var 1) w_divisor_of_0) (.cons (.ret (.var 0)) .nil)))
def e_divisor_of : Fn := ⟨2, 2, m_divisor_of⟩
theorem c_divisor_of : chkSs fs bs n_divisor_of (defScope (top 3)) m_divisor_of (defBody (top 3)) = true := by decide +kernel
theorem s_divisor_of : FnScope n_divisor_of ["a", "b"] (defScope (top 3)) := ⟨by decide +kernel, by decide +kernel, by decide +kernel, by decide +kernel, by decide +kernel, by decide +kernel, by decide +kernel⟩
theorem d_divisor_of : DTxt fs bs "divisor_of" (top 3) n_divisor_of ["a", "b"] e_divisor_of := ⟨s_divisor_of, rfl, rfl, by decide, c_divisor_of, fun kV doc pm an cdv ct us hl => match us, hl with | [_, _], _ => rfl⟩
def n_ratio_of : List Str := ["p", "q", "g"]
def m_ratio_of : Ss := (.cons (.ife (.cmp .Lt (.var 1) (.lit (.int 0)))
  (.cons (.par [0, 1] [.inl (.neg (.var 0)), .inl (.neg (.var 1))]) .nil)
  .nil) (.cons (.set 2 (.call "divisor_of" (.cons (.var 0) (.cons (.var 1) .nil)))) (.cons (.ret (.tup (.cons (.bin .FloorDiv (.var 0) (.var 2)) (.cons (.bin .FloorDiv (.var 1) (.var 2)) .nil)))) .nil)))
def e_ratio_of : Fn := ⟨2, 3, m_ratio_of⟩
theorem c_ratio_of : chkSs fs bs n_ratio_of (defScope (top 4)) m_ratio_of (defBody (top 4)) = true := by decide +kernel
theorem s_ratio_of : FnScope n_ratio_of ["p", "q"] (defScope (top 4)) := ⟨by decide +kernel, by decide +kernel, by decide +kernel, by decide +kernel, by decide +kernel, by decide +kernel, by decide +kernel⟩
theorem d_ratio_of : DTxt fs bs "ratio_of" (top 4) n_ratio_of ["p", "q"] e_ratio_of := ⟨s_ratio_of, rfl, rfl, by decide, c_ratio_of, fun kV doc pm an cdv ct us hl => match us, hl with | [_, _], _ => rfl⟩
def n_is_ratio : List Str := ["value"]
def m_is_ratio : Ss := (.cons (.ife (.dis (.cons (.not (.isi (.var 0) "tuple")) (.cons (.cmp .NotEq (.bi "len" (.cons (.var 0) .nil)) (.lit (.int 2))) (.cons (.not (.call "is_whole" (.cons (.ix (.var 0) (.lit (.int 0))) .nil))) (.cons (.not (.call "is_whole" (.cons (.ix (.var 0) (.lit (.int 1))) .nil))) .nil)))))
  (.cons (.ret (.lit (.bl false))) .nil)
  .nil) (.cons (.ret (.con (.cons (.cmp .Gt (.ix (.var 0) (.lit (.int 1))) (.lit (.int 0))) (.cons (.cmp .Eq (.call "ratio_of" (.cons (.ix (.var 0) (.lit (.int 0))) (.cons (.ix (.var 0) (.lit (.int 1))) .nil))) (.var 0)) .nil)))) .nil))
def e_is_ratio : Fn := ⟨1, 1, m_is_ratio⟩
theorem c_is_ratio : chkSs fs bs n_is_ratio (defScope (top 5)) m_is_ratio (defBody (top 5)) = true := by decide +kernel
theorem s_is_ratio : FnScope n_is_ratio ["value"] (defScope (top 5)) := ⟨by decide +kernel, by decide +kernel, by decide +kernel, by decide +kernel, by decide +kernel, by decide +kernel, by decide +kernel⟩
theorem d_is_ratio : DTxt fs bs "is_ratio" (top 5) n_is_ratio ["value"] e_is_ratio := ⟨s_is_ratio, rfl, rfl, by decide, c_is_ratio, fun kV doc pm an cdv ct us hl => match us, hl with | [_], _ => rfl⟩
def n_sum_of : List Str := ["one", "other"]
def m_sum_of : Ss := (.cons (.ret (.call "ratio_of" (.cons (.bin .Add (.bin .Mult (.ix (.var 0) (.lit (.int 0))) (.ix (.var 1) (.lit (.int 1)))) (.bin .Mult (.ix (.var 1) (.lit (.int 0))) (.ix (.var 0) (.lit (.int 1))))) (.cons (.bin .Mult (.ix (.var 0) (.lit (.int 1))) (.ix (.var 1) (.lit (.int 1)))) .nil)))) .nil)
def e_sum_of : Fn := ⟨2, 2, m_sum_of⟩
theorem c_sum_of : chkSs fs bs n_sum_of (defScope (top 6)) m_sum_of (defBody (top 6)) = true := by decide +kernel
theorem s_sum_of : FnScope n_sum_of ["one", "other"] (defScope (top 6)) := ⟨by decide +kernel, by decide +kernel, by decide +kernel, by decide +kernel, by decide +kernel, by decide +kernel, by decide +kernel⟩
theorem d_sum_of : DTxt fs bs "sum_of" (top 6) n_sum_of ["one", "other"] e_sum_of := ⟨s_sum_of, rfl, rfl, by decide, c_sum_of, fun kV doc pm an cdv ct us hl => match us, hl with | [_, _], _ => rfl⟩
def n_less_of : List Str := ["one", "other"]
def m_less_of : Ss := (.cons (.ret (.call "ratio_of" (.cons (.bin .Sub (.bin .Mult (.ix (.var 0) (.lit (.int 0))) (.ix (.var 1) (.lit (.int 1)))) (.bin .Mult (.ix (.var 1) (.lit (.int 0))) (.ix (.var 0) (.lit (.int 1))))) (.cons (.bin .Mult (.ix (.var 0) (.lit (.int 1))) (.ix (.var 1) (.lit (.int 1)))) .nil)))) .nil)
def e_less_of : Fn := ⟨2, 2, m_less_of⟩
theorem c_less_of : chkSs fs bs n_less_of (defScope (top 7)) m_less_of (defBody (top 7)) = true := by decide +kernel
theorem s_less_of : FnScope n_less_of ["one", "other"] (defScope (top 7)) := ⟨by decide +kernel, by decide +kernel, by decide +kernel, by decide +kernel, by decide +kernel, by decide +kernel, by decide +kernel⟩
theorem d_less_of : DTxt fs bs "less_of" (top 7) n_less_of ["one", "other"] e_less_of := ⟨s_less_of, rfl, rfl, by decide, c_less_of, fun kV doc pm an cdv ct us hl => match us, hl with | [_, _], _ => rfl⟩
def n_times_of : List Str := ["one", "other"]
def m_times_of : Ss := (.cons (.ret (.call "ratio_of" (.cons (.bin .Mult (.ix (.var 0) (.lit (.int 0))) (.ix (.var 1) (.lit (.int 0)))) (.cons (.bin .Mult (.ix (.var 0) (.lit (.int 1))) (.ix (.var 1) (.lit (.int 1)))) .nil)))) .nil)
def e_times_of : Fn := ⟨2, 2, m_times_of⟩
theorem c_times_of : chkSs fs bs n_times_of (defScope (top 8)) m_times_of (defBody (top 8)) = true := by decide +kernel
theorem s_times_of : FnScope n_times_of ["one", "other"] (defScope (top 8)) := ⟨by decide +kernel, by decide +kernel, by decide +kernel, by decide +kernel, by decide +kernel, by decide +kernel, by decide +kernel⟩
theorem d_times_of : DTxt fs bs "times_of" (top 8) n_times_of ["one", "other"] e_times_of := ⟨s_times_of, rfl, rfl, by decide, c_times_of, fun kV doc pm an cdv ct us hl => match us, hl with | [_, _], _ => rfl⟩
def n_is_below : List Str := ["one", "other"]
def m_is_below : Ss := (.cons (.ret (.cmp .Lt (.bin .Mult (.ix (.var 0) (.lit (.int 0))) (.ix (.var 1) (.lit (.int 1)))) (.bin .Mult (.ix (.var 1) (.lit (.int 0))) (.ix (.var 0) (.lit (.int 1)))))) .nil)
def e_is_below : Fn := ⟨2, 2, m_is_below⟩
theorem c_is_below : chkSs fs bs n_is_below (defScope (top 9)) m_is_below (defBody (top 9)) = true := by decide +kernel
theorem s_is_below : FnScope n_is_below ["one", "other"] (defScope (top 9)) := ⟨by decide +kernel, by decide +kernel, by decide +kernel, by decide +kernel, by decide +kernel, by decide +kernel, by decide +kernel⟩
theorem d_is_below : DTxt fs bs "is_below" (top 9) n_is_below ["one", "other"] e_is_below := ⟨s_is_below, rfl, rfl, by decide, c_is_below, fun kV doc pm an cdv ct us hl => match us, hl with | [_, _], _ => rfl⟩
def n_floor_of : List Str := ["ratio"]
def m_floor_of : Ss := (.cons (.ret (.bin .FloorDiv (.ix (.var 0) (.lit (.int 0))) (.ix (.var 0) (.lit (.int 1))))) .nil)
def e_floor_of : Fn := ⟨1, 1, m_floor_of⟩
theorem c_floor_of : chkSs fs bs n_floor_of (defScope (top 10)) m_floor_of (defBody (top 10)) = true := by decide +kernel
theorem s_floor_of : FnScope n_floor_of ["ratio"] (defScope (top 10)) := ⟨by decide +kernel, by decide +kernel, by decide +kernel, by decide +kernel, by decide +kernel, by decide +kernel, by decide +kernel⟩
theorem d_floor_of : DTxt fs bs "floor_of" (top 10) n_floor_of ["ratio"] e_floor_of := ⟨s_floor_of, rfl, rfl, by decide, c_floor_of, fun kV doc pm an cdv ct us hl => match us, hl with | [_], _ => rfl⟩
def n_bit_parts : List Str := ["timing"]
def m_bit_parts : Ss := (.cons (.ret (.bin .Add (.bin .Add (.lit (.int 1)) (.ix (.var 0) (.lit (.int 0)))) (.ix (.var 0) (.lit (.int 1))))) .nil)
def e_bit_parts : Fn := ⟨1, 1, m_bit_parts⟩
theorem c_bit_parts : chkSs fs bs n_bit_parts (defScope (top 15)) m_bit_parts (defBody (top 15)) = true := by decide +kernel
theorem s_bit_parts : FnScope n_bit_parts ["timing"] (defScope (top 15)) := ⟨by decide +kernel, by decide +kernel, by decide +kernel, by decide +kernel, by decide +kernel, by decide +kernel, by decide +kernel⟩
theorem d_bit_parts : DTxt fs bs "bit_parts" (top 15) n_bit_parts ["timing"] e_bit_parts := ⟨s_bit_parts, rfl, rfl, by decide, c_bit_parts, fun kV doc pm an cdv ct us hl => match us, hl with | [_], _ => rfl⟩
def n_heard_at : List Str := ["timing"]
def m_heard_at : Ss := (.cons (.ret (.call "ratio_of" (.cons (.bin .Add (.lit (.int 1)) (.ix (.var 0) (.lit (.int 0)))) (.cons (.call "bit_parts" (.cons (.var 0) .nil)) .nil)))) .nil)
def e_heard_at : Fn := ⟨1, 1, m_heard_at⟩
theorem c_heard_at : chkSs fs bs n_heard_at (defScope (top 16)) m_heard_at (defBody (top 16)) = true := by decide +kernel
theorem s_heard_at : FnScope n_heard_at ["timing"] (defScope (top 16)) := ⟨by decide +kernel, by decide +kernel, by decide +kernel, by decide +kernel, by decide +kernel, by decide +kernel, by decide +kernel⟩
theorem d_heard_at : DTxt fs bs "heard_at" (top 16) n_heard_at ["timing"] e_heard_at := ⟨s_heard_at, rfl, rfl, by decide, c_heard_at, fun kV doc pm an cdv ct us hl => match us, hl with | [_], _ => rfl⟩
def n_jump_of : List Str := ["timing"]
def m_jump_of : Ss := (.cons (.ret (.call "ratio_of" (.cons (.ix (.var 0) (.lit (.int 2))) (.cons (.call "bit_parts" (.cons (.var 0) .nil)) .nil)))) .nil)
def e_jump_of : Fn := ⟨1, 1, m_jump_of⟩
theorem c_jump_of : chkSs fs bs n_jump_of (defScope (top 17)) m_jump_of (defBody (top 17)) = true := by decide +kernel
theorem s_jump_of : FnScope n_jump_of ["timing"] (defScope (top 17)) := ⟨by decide +kernel, by decide +kernel, by decide +kernel, by decide +kernel, by decide +kernel, by decide +kernel, by decide +kernel⟩
theorem d_jump_of : DTxt fs bs "jump_of" (top 17) n_jump_of ["timing"] e_jump_of := ⟨s_jump_of, rfl, rfl, by decide, c_jump_of, fun kV doc pm an cdv ct us hl => match us, hl with | [_], _ => rfl⟩
def n_not_above : List Str := ["one", "other"]
def m_not_above : Ss := (.cons (.ret (.not (.call "is_below" (.cons (.var 1) (.cons (.var 0) .nil))))) .nil)
def e_not_above : Fn := ⟨2, 2, m_not_above⟩
theorem c_not_above : chkSs fs bs n_not_above (defScope (top 18)) m_not_above (defBody (top 18)) = true := by decide +kernel
theorem s_not_above : FnScope n_not_above ["one", "other"] (defScope (top 18)) := ⟨by decide +kernel, by decide +kernel, by decide +kernel, by decide +kernel, by decide +kernel, by decide +kernel, by decide +kernel⟩
theorem d_not_above : DTxt fs bs "not_above" (top 18) n_not_above ["one", "other"] e_not_above := ⟨s_not_above, rfl, rfl, by decide, c_not_above, fun kV doc pm an cdv ct us hl => match us, hl with | [_, _], _ => rfl⟩
def n_holds : List Str := ["timing", "clock", "before", "edge", "differs", "at", "jump"]
def m_holds : Ss := (.cons (.par [4, 5, 6] [.inl (.call "less_of" (.cons (.var 1) (.cons (.glob "ONE") .nil))), .inl (.call "heard_at" (.cons (.var 0) .nil)), .inl (.call "jump_of" (.cons (.var 0) .nil))]) (.cons (.set 2 (.call "times_of" (.cons (.var 4) (.cons (.call "sum_of" (.cons (.tup (.cons (.bin .Sub (.glob "FARTHEST_EDGE") (.lit (.int 1))) (.cons (.lit (.int 1)) .nil))) (.cons (.var 5) .nil))) .nil)))) (.cons (.set 3 (.call "times_of" (.cons (.var 4) (.cons (.tup (.cons (.glob "FARTHEST_EDGE") (.cons (.lit (.int 1)) .nil))) .nil)))) (.cons (.ife (.not (.call "is_below" (.cons (.var 4) (.cons (.glob "NOUGHT") .nil))))
  (.cons (.ret (.con (.cons (.call "is_below" (.cons (.var 2) (.cons (.call "less_of" (.cons (.glob "ONE") (.cons (.var 5) .nil))) .nil))) (.cons (.call "not_above" (.cons (.var 3) (.cons (.call "times_of" (.cons (.var 6) (.cons (.var 1) .nil))) .nil))) .nil)))) .nil)
  .nil) (.cons (.ret (.con (.cons (.call "not_above" (.cons (.call "less_of" (.cons (.glob "NOUGHT") (.cons (.var 2) .nil))) (.cons (.var 5) .nil))) (.cons (.call "not_above" (.cons (.call "less_of" (.cons (.glob "NOUGHT") (.cons (.var 3) .nil))) (.cons (.call "times_of" (.cons (.var 6) (.cons (.var 1) .nil))) .nil))) .nil)))) .nil)))))
def e_holds : Fn := ⟨2, 7, m_holds⟩
theorem c_holds : chkSs fs bs n_holds (defScope (top 19)) m_holds (defBody (top 19)) = true := by decide +kernel
theorem s_holds : FnScope n_holds ["timing", "clock"] (defScope (top 19)) := ⟨by decide +kernel, by decide +kernel, by decide +kernel, by decide +kernel, by decide +kernel, by decide +kernel, by decide +kernel⟩
theorem d_holds : DTxt fs bs "holds" (top 19) n_holds ["timing", "clock"] e_holds := ⟨s_holds, rfl, rfl, by decide, c_holds, fun kV doc pm an cdv ct us hl => match us, hl with | [_, _], _ => rfl⟩
def n_over : List Str := ["one", "other"]
def m_over : Ss := (.cons (.ret (.call "ratio_of" (.cons (.bin .Mult (.ix (.var 0) (.lit (.int 0))) (.ix (.var 1) (.lit (.int 1)))) (.cons (.bin .Mult (.ix (.var 0) (.lit (.int 1))) (.ix (.var 1) (.lit (.int 0)))) .nil)))) .nil)
def e_over : Fn := ⟨2, 2, m_over⟩
theorem c_over : chkSs fs bs n_over (defScope (top 20)) m_over (defBody (top 20)) = true := by decide +kernel
theorem s_over : FnScope n_over ["one", "other"] (defScope (top 20)) := ⟨by decide +kernel, by decide +kernel, by decide +kernel, by decide +kernel, by decide +kernel, by decide +kernel, by decide +kernel⟩
theorem d_over : DTxt fs bs "over" (top 20) n_over ["one", "other"] e_over := ⟨s_over, rfl, rfl, by decide, c_over, fun kV doc pm an cdv ct us hl => match us, hl with | [_, _], _ => rfl⟩
def n_clock_range : List Str := ["timing", "more", "less", "at", "jump", "edge", "last", "late", "late_jump", "early", "early_jump"]
def m_clock_range : Ss := (.cons (.par [3, 4] [.inl (.call "heard_at" (.cons (.var 0) .nil)), .inl (.call "jump_of" (.cons (.var 0) .nil))]) (.cons (.par [5, 6] [.inl (.tup (.cons (.glob "FARTHEST_EDGE") (.cons (.lit (.int 1)) .nil))), .inl (.tup (.cons (.bin .Sub (.glob "FARTHEST_EDGE") (.lit (.int 1))) (.cons (.lit (.int 1)) .nil)))]) (.cons (.par [7, 8] [.inl (.call "over" (.cons (.call "less_of" (.cons (.glob "ONE") (.cons (.var 3) .nil))) (.cons (.call "sum_of" (.cons (.var 6) (.cons (.var 3) .nil))) .nil))), .inl (.call "over" (.cons (.var 4) (.cons (.call "less_of" (.cons (.var 5) (.cons (.var 4) .nil))) .nil)))]) (.cons (.par [9, 10] [.inl (.call "over" (.cons (.var 3) (.cons (.call "sum_of" (.cons (.var 6) (.cons (.var 3) .nil))) .nil))), .inl (.call "over" (.cons (.var 4) (.cons (.call "sum_of" (.cons (.var 5) (.cons (.var 4) .nil))) .nil)))]) (.cons (.set 1 (.ife (.call "is_below" (.cons (.var 8) (.cons (.var 7) .nil))) (.var 8) (.var 7))) (.cons (.set 2 (.ife (.call "is_below" (.cons (.var 10) (.cons (.var 9) .nil))) (.var 10) (.var 9))) (.cons (.ret (.tup (.cons (.call "less_of" (.cons (.glob "ONE") (.cons (.var 2) .nil))) (.cons (.call "sum_of" (.cons (.glob "ONE") (.cons (.var 1) .nil))) (.cons (.call "is_below" (.cons (.var 8) (.cons (.var 7) .nil))) .nil))))) .nil)))))))
def e_clock_range : Fn := ⟨1, 11, m_clock_range⟩
theorem c_clock_range : chkSs fs bs n_clock_range (defScope (top 21)) m_clock_range (defBody (top 21)) = true := by decide +kernel
theorem s_clock_range : FnScope n_clock_range ["timing"] (defScope (top 21)) := ⟨by decide +kernel, by decide +kernel, by decide +kernel, by decide +kernel, by decide +kernel, by decide +kernel, by decide +kernel⟩
theorem d_clock_range : DTxt fs bs "clock_range" (top 21) n_clock_range ["timing"] e_clock_range := ⟨s_clock_range, rfl, rfl, by decide, c_clock_range, fun kV doc pm an cdv ct us hl => match us, hl with | [_], _ => rfl⟩
def n_wire_at : List Str := ["row", "time", "place"]
def m_wire_at : Ss := (.cons (.set 2 (.call "floor_of" (.cons (.var 1) .nil))) (.cons (.ret (.ife (.chn .LtE .Lt (.lit (.int 0)) (.var 2) (.bi "len" (.cons (.var 0) .nil))) (.ix (.var 0) (.var 2)) (.glob "WEAK"))) .nil))
def e_wire_at : Fn := ⟨2, 3, m_wire_at⟩
theorem c_wire_at : chkSs fs bs n_wire_at (defScope (top 26)) m_wire_at (defBody (top 26)) = true := by decide +kernel
theorem s_wire_at : FnScope n_wire_at ["row", "time"] (defScope (top 26)) := ⟨by decide +kernel, by decide +kernel, by decide +kernel, by decide +kernel, by decide +kernel, by decide +kernel, by decide +kernel⟩
theorem d_wire_at : DTxt fs bs "wire_at" (top 26) n_wire_at ["row", "time"] e_wire_at := ⟨s_wire_at, rfl, rfl, by decide, c_wire_at, fun kV doc pm an cdv ct us hl => match us, hl with | [_, _], _ => rfl⟩
def n_edge_between : List Str := ["row", "begin", "end", "place"]
def w_edge_between_0 : Ss := (.cons (.ife (.con (.cons (.cmp .Eq (.ix (.var 0) (.var 3)) (.glob "STRONG")) (.cons (.dis (.cons (.cmp .Eq (.var 3) (.lit (.int 0))) (.cons (.cmp .Eq (.ix (.var 0) (.bin .Sub (.var 3) (.lit (.int 1)))) (.glob "WEAK")) .nil))) .nil)))
  (.cons (.ret (.tup (.cons (.var 3) (.cons (.lit (.int 1)) .nil)))) .nil)
  .nil) .nil)
def m_edge_between : Ss := (.cons (.for_ (.nm 3) (.r2 (.bi "max" (.cons (.lit (.int 0)) (.cons (.bin .Add (.call "floor_of" (.cons (.var 1) .nil)) (.lit (.int 1))) .nil))) (.bin .Add (.bi "min" (.cons (.bin .Sub (.bi "len" (.cons (.var 0) .nil)) (.lit (.int 1))) (.cons (.call "floor_of" (.cons (.var 2) .nil)) .nil))) (.lit (.int 1)))) w_edge_between_0) (.cons (.ret (.lit .non)) .nil))
def e_edge_between : Fn := ⟨3, 4, m_edge_between⟩
theorem c_edge_between : chkSs fs bs n_edge_between (defScope (top 27)) m_edge_between (defBody (top 27)) = true := by decide +kernel
theorem s_edge_between : FnScope n_edge_between ["row", "begin", "end"] (defScope (top 27)) := ⟨by decide +kernel, by decide +kernel, by decide +kernel, by decide +kernel, by decide +kernel, by decide +kernel, by decide +kernel⟩
theorem d_edge_between : DTxt fs bs "edge_between" (top 27) n_edge_between ["row", "begin", "end"] e_edge_between := ⟨s_edge_between, rfl, rfl, by decide, c_edge_between, fun kV doc pm an cdv ct us hl => match us, hl with | [_, _, _], _ => rfl⟩
def n_moved_begin : List Str := ["begin", "edge", "most", "far"]
def m_moved_begin : Ss := (.cons (.set 3 (.call "less_of" (.cons (.var 1) (.cons (.var 0) .nil)))) (.cons (.ife (.call "is_below" (.cons (.var 2) (.cons (.var 3) .nil)))
  (.cons (.ret (.call "sum_of" (.cons (.var 0) (.cons (.var 2) .nil)))) .nil)
  .nil) (.cons (.ret (.ife (.call "is_below" (.cons (.var 3) (.cons (.call "less_of" (.cons (.glob "NOUGHT") (.cons (.var 2) .nil))) .nil))) (.call "less_of" (.cons (.var 0) (.cons (.var 2) .nil))) (.var 1))) .nil)))
def e_moved_begin : Fn := ⟨3, 4, m_moved_begin⟩
theorem c_moved_begin : chkSs fs bs n_moved_begin (defScope (top 28)) m_moved_begin (defBody (top 28)) = true := by decide +kernel
theorem s_moved_begin : FnScope n_moved_begin ["begin", "edge", "most"] (defScope (top 28)) := ⟨by decide +kernel, by decide +kernel, by decide +kernel, by decide +kernel, by decide +kernel, by decide +kernel, by decide +kernel⟩
theorem d_moved_begin : DTxt fs bs "moved_begin" (top 28) n_moved_begin ["begin", "edge", "most"] e_moved_begin := ⟨s_moved_begin, rfl, rfl, by decide, c_moved_begin, fun kV doc pm an cdv ct us hl => match us, hl with | [_, _, _], _ => rfl⟩
def n_heard_by : List Str := ["timing", "clock", "row", "_", "late", "most", "begin", "last", "found", "time", "edge"]
def w_heard_by_0 : Ss := (.cons (.set 9 (.call "sum_of" (.cons (.var 6) (.cons (.var 4) .nil)))) (.cons (.set 10 (.bor 8 (.ife (.con (.cons (.var 8) (.cons (.cmp .Eq (.ix (.var 8) (.neg (.lit (.int 1)))) (.glob "WEAK")) .nil))) (.call "edge_between" (.cons (.var 2) (.cons (.var 7) (.cons (.var 9) .nil)))) (.lit .non)))) (.cons (.ife (.cmp .IsNot (.var 10) (.lit .non))
  (.cons (.set 6 (.call "moved_begin" (.cons (.var 6) (.cons (.var 10) (.cons (.var 5) .nil))))) (.cons (.set 9 (.call "sum_of" (.cons (.var 6) (.cons (.var 4) .nil)))) .nil))
  .nil) (.cons (.app 8 (.call "wire_at" (.cons (.var 2) (.cons (.var 9) .nil)))) (.cons (.par [6, 7] [.inl (.call "sum_of" (.cons (.var 6) (.cons (.var 1) .nil))), .inl (.var 9)]) .nil)))))
def m_heard_by : Ss := (.cons (.par [4, 5] [.inl (.call "times_of" (.cons (.call "heard_at" (.cons (.var 0) .nil)) (.cons (.var 1) .nil))), .inl (.call "times_of" (.cons (.call "jump_of" (.cons (.var 0) .nil)) (.cons (.var 1) .nil)))]) (.cons (.par [6, 7, 8] [.inl (.glob "NOUGHT"), .inl (.glob "NOUGHT"), .inr (.dsp .nil)]) (.cons (.for_ (.nm 3) (.sq (.var 2)) w_heard_by_0) (.frz 8 (.cons (.ret (.bi "tuple" (.cons (.var 8) .nil))) .nil)))))
def e_heard_by : Fn := ⟨3, 11, m_heard_by⟩
theorem c_heard_by : chkSs fs bs n_heard_by (defScope (top 29)) m_heard_by (defBody (top 29)) = true := by decide +kernel
theorem s_heard_by : FnScope n_heard_by ["timing", "clock", "row"] (defScope (top 29)) := ⟨by decide +kernel, by decide +kernel, by decide +kernel, by decide +kernel, by decide +kernel, by decide +kernel, by decide +kernel⟩
theorem d_heard_by : DTxt fs bs "heard_by" (top 29) n_heard_by ["timing", "clock", "row"] e_heard_by := ⟨s_heard_by, rfl, rfl, by decide, c_heard_by, fun kV doc pm an cdv ct us hl => match us, hl with | [_, _, _], _ => rfl⟩
def n_wrong_row : List Str := ["timing", "clock", "many", "row", "heard", "place", "k"]
def w_wrong_row_0 : Ss := (.cons (.aug 2 .Mult (.lit (.int 2))) .nil)
def m_wrong_row : Ss := (.cons (.ife (.call "holds" (.cons (.var 0) (.cons (.var 1) .nil)))
  (.cons (.ret (.lit .non)) .nil)
  .nil) (.cons (.set 2 (.lit (.int 1))) (.cons (.whl (.cmp .Eq (.call "heard_by" (.cons (.var 0) (.cons (.var 1) (.cons (.bin .Mult (.glob "PERIOD") (.var 2)) .nil)))) (.bin .Mult (.glob "PERIOD") (.var 2))) w_wrong_row_0) (.cons (.set 3 (.bin .Mult (.glob "PERIOD") (.bin .Add (.var 2) (.lit (.int 1))))) (.cons (.set 4 (.call "heard_by" (.cons (.var 0) (.cons (.var 1) (.cons (.var 3) .nil))))) (.cons (.set 5 (.ix (.lc (.var 6) (.nm 6) (.r1 (.bi "len" (.cons (.var 3) .nil))) (.some (.cmp .NotEq (.ix (.var 4) (.var 6)) (.ix (.var 3) (.var 6)))) [("k", 6)]) (.lit (.int 0)))) (.cons (.ret (.sl (.var 3) .none (.some (.bin .Add (.var 5) (.lit (.int 2)))))) .nil)))))))
def e_wrong_row : Fn := ⟨2, 7, m_wrong_row⟩
theorem c_wrong_row : chkSs fs bs n_wrong_row (defScope (top 30)) m_wrong_row (defBody (top 30)) = true := by decide +kernel
theorem s_wrong_row : FnScope n_wrong_row ["timing", "clock"] (defScope (top 30)) := ⟨by decide +kernel, by decide +kernel, by decide +kernel, by decide +kernel, by decide +kernel, by decide +kernel, by decide +kernel⟩
theorem d_wrong_row : DTxt fs bs "wrong_row" (top 30) n_wrong_row ["timing", "clock"] e_wrong_row := ⟨s_wrong_row, rfl, rfl, by decide, c_wrong_row, fun kV doc pm an cdv ct us hl => match us, hl with | [_, _], _ => rfl⟩
def n__law_mix : List Str := ["number"]
def m__law_mix : Ss := (.cons (.set 0 (.bin .Mod (.bi "int" (.cons (.bin .Add (.bin .Mult (.var 0) (.lit (.int 6364136223846793005))) (.lit (.int 1442695040888963407))) .nil)) (.lit (.int 18446744073709551616)))) (.cons (.ret (.bin .Mod (.bi "int" (.cons (.bin .Add (.bin .FloorDiv (.bin .Mult (.var 0) (.var 0)) (.lit (.int 4294967296))) (.bin .Mult (.var 0) (.lit (.int 69621)))) .nil)) (.lit (.int 18446744073709551557)))) .nil))
def e__law_mix : Fn := ⟨1, 1, m__law_mix⟩
theorem c__law_mix : chkSs fs bs n__law_mix (defScope (top 32)) m__law_mix (defBody (top 32)) = true := by decide +kernel
theorem s__law_mix : FnScope n__law_mix ["number"] (defScope (top 32)) := ⟨by decide +kernel, by decide +kernel, by decide +kernel, by decide +kernel, by decide +kernel, by decide +kernel, by decide +kernel⟩
theorem d__law_mix : DTxt fs bs "_law_mix" (top 32) n__law_mix ["number"] e__law_mix := ⟨s__law_mix, rfl, rfl, by decide, c__law_mix, fun kV doc pm an cdv ct us hl => match us, hl with | [_], _ => rfl⟩
def n__law_tape : List Str := ["script"]
def m__law_tape : Ss := (.cons (.ret (.onew (.cons (.olist (.sl (.var 0) .none (.some (.lit (.int 80))))) (.cons (.lit (.int 0)) (.cons (.lit (.int 0)) (.cons (.bin .Add (.lit (.int 1)) (.bi "len" (.cons (.var 0) .nil))) .nil)))))) .nil)
def e__law_tape : Fn := ⟨1, 1, m__law_tape⟩
theorem c__law_tape : chkSs fs bs n__law_tape (defScope (top 33)) m__law_tape (defBody (top 33)) = true := by decide +kernel
theorem s__law_tape : FnScope n__law_tape ["script"] (defScope (top 33)) := ⟨by decide +kernel, by decide +kernel, by decide +kernel, by decide +kernel, by decide +kernel, by decide +kernel, by decide +kernel⟩
theorem d__law_tape : DTxt fs bs "_law_tape" (top 33) n__law_tape ["script"] e__law_tape := ⟨s__law_tape, rfl, rfl, by decide, c__law_tape, fun kV doc pm an cdv ct us hl => match us, hl with | [_], _ => rfl⟩
def n__law_take : List Str := ["tape", "many", "digit", "cell"]
def m__law_take : Ss := (.cons (.ife (.cmp .Lt (.oix (.var 0) (.lit (.int 2))) (.var 1))
  (.cons (.ife (.cmp .Lt (.oix (.var 0) (.lit (.int 1))) (.olen (.oix (.var 0) (.lit (.int 0)))))
  (.cons (.set 3 (.oix (.oix (.var 0) (.lit (.int 0))) (.oix (.var 0) (.lit (.int 1))))) (.cons (.set 3 (.ife (.cmp .GtE (.var 3) (.lit (.int 0))) (.bin .Mult (.lit (.int 2)) (.var 3)) (.bin .Sub (.bin .Mult (.neg (.lit (.int 2))) (.var 3)) (.lit (.int 1))))) (.cons (.oput (.var 0) (.lit (.int 1)) (.bin .Add (.oix (.var 0) (.lit (.int 1))) (.lit (.int 1)))) (.cons (.oput (.var 0) (.lit (.int 3)) (.call "_law_mix" (.cons (.bin .Add (.oix (.var 0) (.lit (.int 3))) (.var 3)) .nil))) (.cons (.oput (.var 0) (.lit (.int 2)) (.ife (.cmp .GtE (.var 3) (.bin .Pow (.lit (.int 10)) (.lit (.int 18)))) (.var 3) (.call "_law_mix" (.cons (.bin .Add (.call "_law_mix" (.cons (.var 3) .nil)) (.oix (.var 0) (.lit (.int 1)))) .nil)))) .nil)))))
  (.cons (.oput (.var 0) (.lit (.int 3)) (.call "_law_mix" (.cons (.bin .Add (.oix (.var 0) (.lit (.int 3))) (.lit (.int 1))) .nil))) (.cons (.oput (.var 0) (.lit (.int 2)) (.oix (.var 0) (.lit (.int 3)))) .nil))) .nil)
  .nil) (.cons (.set 2 (.bin .Mod (.bi "int" (.cons (.oix (.var 0) (.lit (.int 2))) .nil)) (.var 1))) (.cons (.oput (.var 0) (.lit (.int 2)) (.bin .FloorDiv (.oix (.var 0) (.lit (.int 2))) (.var 1))) (.cons (.ret (.var 2)) .nil))))
def e__law_take : Fn := ⟨2, 4, m__law_take⟩
theorem c__law_take : chkSs fs bs n__law_take (defScope (top 34)) m__law_take (defBody (top 34)) = true := by decide +kernel
theorem s__law_take : FnScope n__law_take ["tape", "many"] (defScope (top 34)) := ⟨by decide +kernel, by decide +kernel, by decide +kernel, by decide +kernel, by decide +kernel, by decide +kernel, by decide +kernel⟩
theorem d__law_take : DTxt fs bs "_law_take" (top 34) n__law_take ["tape", "many"] e__law_take := ⟨s__law_take, rfl, rfl, by decide, c__law_take, fun kV doc pm an cdv ct us hl => match us, hl with | [_, _], _ => rfl⟩
def n__law_same : List Str := ["a", "b", "k"]
def m__law_same : Ss := (.cons (.ife (.dis (.cons (.con (.cons (.isi (.var 0) "tuple") (.cons (.isi (.var 1) "tuple") .nil))) (.cons (.con (.cons (.isi (.var 0) "list") (.cons (.isi (.var 1) "list") .nil))) .nil)))
  (.cons (.ret (.con (.cons (.cmp .Eq (.bi "len" (.cons (.var 0) .nil)) (.bi "len" (.cons (.var 1) .nil))) (.cons (.bi "all" (.cons (.lc (.call "_law_same" (.cons (.ix (.var 0) (.var 2)) (.cons (.ix (.var 1) (.var 2)) .nil))) (.nm 2) (.r1 (.bi "len" (.cons (.var 0) .nil))) .none [("k", 2)]) .nil)) .nil)))) .nil)
  .nil) (.cons (.ife (.dis (.cons (.isi (.var 0) "bool") (.cons (.isi (.var 1) "bool") .nil)))
  (.cons (.ret (.con (.cons (.isi (.var 0) "bool") (.cons (.isi (.var 1) "bool") (.cons (.cmp .Eq (.var 0) (.var 1)) .nil))))) .nil)
  .nil) (.cons (.ife (.dis (.cons (.con (.cons (.isi (.var 0) "int") (.cons (.isi (.var 1) "int") .nil))) (.cons (.con (.cons (.isi (.var 0) "str") (.cons (.isi (.var 1) "str") .nil))) .nil)))
  (.cons (.ret (.cmp .Eq (.var 0) (.var 1))) .nil)
  .nil) (.cons (.ret (.con (.cons (.cmp .Is (.var 0) (.lit .non)) (.cons (.cmp .Is (.var 1) (.lit .non)) .nil)))) .nil))))
def e__law_same : Fn := ⟨2, 3, m__law_same⟩
theorem c__law_same : chkSs fs bs n__law_same (defScope (top 35)) m__law_same (defBody (top 35)) = true := by decide +kernel
theorem s__law_same : FnScope n__law_same ["a", "b"] (defScope (top 35)) := ⟨by decide +kernel, by decide +kernel, by decide +kernel, by decide +kernel, by decide +kernel, by decide +kernel, by decide +kernel⟩
theorem d__law_same : DTxt fs bs "_law_same" (top 35) n__law_same ["a", "b"] e__law_same := ⟨s__law_same, rfl, rfl, by decide, c__law_same, fun kV doc pm an cdv ct us hl => match us, hl with | [_, _], _ => rfl⟩
def n__law_timing : List Str := ["tape", "before", "after"]
def m__law_timing : Ss := (.cons (.par [1, 2] [.inl (.bin .Add (.lit (.int 1)) (.call "_law_take" (.cons (.var 0) (.cons (.lit (.int 12)) .nil)))), .inl (.bin .Add (.lit (.int 1)) (.call "_law_take" (.cons (.var 0) (.cons (.lit (.int 12)) .nil))))]) (.cons (.ret (.tup (.cons (.var 1) (.cons (.var 2) (.cons (.bin .Add (.lit (.int 1)) (.call "_law_take" (.cons (.var 0) (.cons (.bi "min" (.cons (.var 1) (.cons (.var 2) .nil))) .nil)))) .nil))))) .nil))
def e__law_timing : Fn := ⟨1, 3, m__law_timing⟩
theorem c__law_timing : chkSs fs bs n__law_timing (defScope (top 36)) m__law_timing (defBody (top 36)) = true := by decide +kernel
theorem s__law_timing : FnScope n__law_timing ["tape"] (defScope (top 36)) := ⟨by decide +kernel, by decide +kernel, by decide +kernel, by decide +kernel, by decide +kernel, by decide +kernel, by decide +kernel⟩
theorem d__law_timing : DTxt fs bs "_law_timing" (top 36) n__law_timing ["tape"] e__law_timing := ⟨s__law_timing, rfl, rfl, by decide, c__law_timing, fun kV doc pm an cdv ct us hl => match us, hl with | [_], _ => rfl⟩
def n__law_hears : List Str := ["timing", "clock", "row", "parts", "k", "unit", "late", "most", "begin", "last", "found", "heard", "edges", "place", "before", "after", "jump", "p", "q", "j"]
def w__law_hears_0 : Ss := (.cons (.set 11 (.bin .Add (.var 8) (.var 6))) (.cons (.set 12 (.lc (.bin .Mult (.var 5) (.var 19)) (.nm 19) (.r1 (.bi "len" (.cons (.var 2) .nil))) (.some (.con (.cons (.cmp .Eq (.ix (.var 2) (.var 19)) (.lit (.int 0))) (.cons (.dis (.cons (.cmp .Eq (.var 19) (.lit (.int 0))) (.cons (.cmp .Eq (.ix (.var 2) (.bin .Sub (.var 19) (.lit (.int 1)))) (.lit (.int 1))) .nil))) (.cons (.chn .Lt .LtE (.var 9) (.bin .Mult (.var 5) (.var 19)) (.var 11)) .nil))))) [("j", 19)])) (.cons (.ife (.bor 10 (.con (.cons (.cmp .NotEq (.var 12) (.lst .nil)) (.cons (.cmp .NotEq (.var 10) (.lst .nil)) (.cons (.cmp .Eq (.ix (.var 10) (.neg (.lit (.int 1)))) (.lit (.int 1))) .nil)))))
  (.cons (.set 8 (.bin .Add (.var 8) (.bi "max" (.cons (.bin .Sub (.lit (.int 0)) (.var 7)) (.cons (.bi "min" (.cons (.var 7) (.cons (.bin .Sub (.ix (.var 12) (.lit (.int 0))) (.var 8)) .nil))) .nil))))) (.cons (.set 11 (.bin .Add (.var 8) (.var 6))) .nil))
  .nil) (.cons (.set 13 (.bin .FloorDiv (.var 11) (.var 5))) (.cons (.app 10 (.ife (.chn .LtE .Lt (.lit (.int 0)) (.var 13) (.bi "len" (.cons (.var 2) .nil))) (.ix (.var 2) (.var 13)) (.lit (.int 1)))) (.cons (.par [8, 9] [.inl (.bin .Add (.var 8) (.bin .Mult (.var 17) (.var 3))), .inl (.var 11)]) .nil))))))
def m__law_hears : Ss := (.cons (.tgt (.tt [.inr [14, 15, 16], .inr [17, 18]]) (.tup (.cons (.var 0) (.cons (.var 1) .nil)))) (.cons (.set 3 (.bin .Add (.bin .Add (.lit (.int 1)) (.var 14)) (.var 15))) (.cons (.par [5, 6, 7] [.inl (.bin .Mult (.var 18) (.var 3)), .inl (.bin .Mult (.var 17) (.bin .Add (.lit (.int 1)) (.var 14))), .inl (.bin .Mult (.var 17) (.var 16))]) (.cons (.par [8, 9, 10] [.inl (.lit (.int 0)), .inl (.lit (.int 0)), .inr (.dsp .nil)]) (.cons (.for_ (.nm 4) (.r1 (.bi "len" (.cons (.var 2) .nil))) w__law_hears_0) (.frz 10 (.cons (.ret (.bi "tuple" (.cons (.var 10) .nil))) .nil)))))))
def e__law_hears : Fn := ⟨3, 20, m__law_hears⟩
theorem c__law_hears : chkSs fs bs n__law_hears (defScope (top 37)) m__law_hears (defBody (top 37)) = true := by decide +kernel
theorem s__law_hears : FnScope n__law_hears ["timing", "clock", "row"] (defScope (top 37)) := ⟨by decide +kernel, by decide +kernel, by decide +kernel, by decide +kernel, by decide +kernel, by decide +kernel, by decide +kernel⟩
theorem d__law_hears : DTxt fs bs "_law_hears" (top 37) n__law_hears ["timing", "clock", "row"] e__law_hears := ⟨s__law_hears, rfl, rfl, by decide, c__law_hears, fun kV doc pm an cdv ct us hl => match us, hl with | [_, _, _], _ => rfl⟩
def n__law_clock : List Str := ["tape", "q", "p", "a", "b"]
def w__law_clock_0 : Ss := (.cons (.par [3, 4] [.inl (.var 4), .inl (.bin .Sub (.var 3) (.bin .Mult (.bin .FloorDiv (.var 3) (.var 4)) (.var 4)))]) .nil)
def m__law_clock : Ss := (.cons (.set 1 (.ix (.lst (.cons (.lit (.int 100)) (.cons (.lit (.int 1000)) (.cons (.lit (.int 37)) .nil)))) (.call "_law_take" (.cons (.var 0) (.cons (.lit (.int 3)) .nil))))) (.cons (.set 2 (.bin .Sub (.bin .Add (.var 1) (.call "_law_take" (.cons (.var 0) (.cons (.bin .Add (.bin .Mult (.lit (.int 2)) (.bin .FloorDiv (.var 1) (.lit (.int 10)))) (.lit (.int 1))) .nil)))) (.bin .FloorDiv (.var 1) (.lit (.int 10))))) (.cons (.par [3, 4] [.inl (.var 2), .inl (.var 1)]) (.cons (.whl (.cmp .Gt (.var 4) (.lit (.int 0))) w__law_clock_0) (.cons (.ret (.tup (.cons (.bin .FloorDiv (.var 2) (.var 3)) (.cons (.bin .FloorDiv (.var 1) (.var 3)) .nil)))) .nil)))))
def e__law_clock : Fn := ⟨1, 5, m__law_clock⟩
theorem c__law_clock : chkSs fs bs n__law_clock (defScope (top 38)) m__law_clock (defBody (top 38)) = true := by decide +kernel
theorem s__law_clock : FnScope n__law_clock ["tape"] (defScope (top 38)) := ⟨by decide +kernel, by decide +kernel, by decide +kernel, by decide +kernel, by decide +kernel, by decide +kernel, by decide +kernel⟩
theorem d__law_clock : DTxt fs bs "_law_clock" (top 38) n__law_clock ["tape"] e__law_clock := ⟨s__law_clock, rfl, rfl, by decide, c__law_clock, fun kV doc pm an cdv ct us hl => match us, hl with | [_], _ => rfl⟩
def n__law_row : List Str := ["tape", "many", "found", "bit"]
def w__law_row_0 : Ss := (.cons (.set 2 (.bin .Add (.var 2) (.bin .Mult (.lst (.cons (.var 3) .nil)) (.ix (.lst (.cons (.lit (.int 1)) (.cons (.lit (.int 5)) (.cons (.lit (.int 5)) (.cons (.bin .Add (.lit (.int 1)) (.call "_law_take" (.cons (.var 0) (.cons (.lit (.int 5)) .nil)))) .nil))))) (.call "_law_take" (.cons (.var 0) (.cons (.lit (.int 4)) .nil))))))) (.cons (.set 3 (.bin .Sub (.lit (.int 1)) (.var 3))) .nil))
def m__law_row : Ss := (.cons (.par [2, 3] [.inl (.lst .nil), .inl (.lit (.int 0))]) (.cons (.whl (.cmp .Lt (.bi "len" (.cons (.var 2) .nil)) (.var 1)) w__law_row_0) (.cons (.ret (.bi "tuple" (.cons (.sl (.var 2) .none (.some (.var 1))) .nil))) .nil)))
def e__law_row : Fn := ⟨2, 4, m__law_row⟩
theorem c__law_row : chkSs fs bs n__law_row (defScope (top 39)) m__law_row (defBody (top 39)) = true := by decide +kernel
theorem s__law_row : FnScope n__law_row ["tape", "many"] (defScope (top 39)) := ⟨by decide +kernel, by decide +kernel, by decide +kernel, by decide +kernel, by decide +kernel, by decide +kernel, by decide +kernel⟩
theorem d__law_row : DTxt fs bs "_law_row" (top 39) n__law_row ["tape", "many"] e__law_row := ⟨s__law_row, rfl, rfl, by decide, c__law_row, fun kV doc pm an cdv ct us hl => match us, hl with | [_, _], _ => rfl⟩
def n__law_low : List Str := ["p", "q", "a", "b"]
def w__law_low_0 : Ss := (.cons (.par [2, 3] [.inl (.var 3), .inl (.bin .Sub (.var 2) (.bin .Mult (.bin .FloorDiv (.var 2) (.var 3)) (.var 3)))]) .nil)
def m__law_low : Ss := (.cons (.par [2, 3] [.inl (.bi "abs" (.cons (.var 0) .nil)), .inl (.var 1)]) (.cons (.whl (.cmp .Gt (.var 3) (.lit (.int 0))) w__law_low_0) (.cons (.ret (.tup (.cons (.bin .FloorDiv (.var 0) (.var 2)) (.cons (.bin .FloorDiv (.var 1) (.var 2)) .nil)))) .nil)))
def e__law_low : Fn := ⟨2, 4, m__law_low⟩
theorem c__law_low : chkSs fs bs n__law_low (defScope (top 40)) m__law_low (defBody (top 40)) = true := by decide +kernel
theorem s__law_low : FnScope n__law_low ["p", "q"] (defScope (top 40)) := ⟨by decide +kernel, by decide +kernel, by decide +kernel, by decide +kernel, by decide +kernel, by decide +kernel, by decide +kernel⟩
theorem d__law_low : DTxt fs bs "_law_low" (top 40) n__law_low ["p", "q"] e__law_low := ⟨s__law_low, rfl, rfl, by decide, c__law_low, fun kV doc pm an cdv ct us hl => match us, hl with | [_, _], _ => rfl⟩
def n__law_holds : List Str := ["timing", "clock", "parts", "ten", "before", "after", "jump", "p", "q"]
def m__law_holds : Ss := (.cons (.tgt (.tt [.inr [4, 5, 6], .inr [7, 8]]) (.tup (.cons (.var 0) (.cons (.var 1) .nil)))) (.cons (.set 2 (.bin .Add (.bin .Add (.lit (.int 1)) (.var 4)) (.var 5))) (.cons (.set 3 (.cmp .LtE (.bin .Mult (.bin .Mult (.lit (.int 10)) (.bi "abs" (.cons (.bin .Sub (.var 7) (.var 8)) .nil))) (.var 2)) (.bin .Mult (.var 6) (.var 7)))) (.cons (.ife (.cmp .GtE (.var 7) (.var 8))
  (.cons (.ret (.con (.cons (.var 3) (.cons (.cmp .Lt (.bin .Add (.bin .Mult (.bin .Mult (.lit (.int 9)) (.bin .Sub (.var 7) (.var 8))) (.var 2)) (.bin .Mult (.var 7) (.bin .Add (.lit (.int 1)) (.var 4)))) (.bin .Mult (.var 8) (.var 2))) .nil)))) .nil)
  .nil) (.cons (.ret (.con (.cons (.var 3) (.cons (.cmp .LtE (.bin .Mult (.bin .Mult (.lit (.int 9)) (.bin .Sub (.var 8) (.var 7))) (.var 2)) (.bin .Mult (.var 7) (.bin .Add (.lit (.int 1)) (.var 4)))) .nil)))) .nil)))))
def e__law_holds : Fn := ⟨2, 9, m__law_holds⟩
theorem c__law_holds : chkSs fs bs n__law_holds (defScope (top 41)) m__law_holds (defBody (top 41)) = true := by decide +kernel
theorem s__law_holds : FnScope n__law_holds ["timing", "clock"] (defScope (top 41)) := ⟨by decide +kernel, by decide +kernel, by decide +kernel, by decide +kernel, by decide +kernel, by decide +kernel, by decide +kernel⟩
theorem d__law_holds : DTxt fs bs "_law_holds" (top 41) n__law_holds ["timing", "clock"] e__law_holds := ⟨s__law_holds, rfl, rfl, by decide, c__law_holds, fun kV doc pm an cdv ct us hl => match us, hl with | [_, _], _ => rfl⟩
def n_law : List Str := ["script", "tape", "turn", "timing", "big", "near", "due", "k", "row", "clock", "fine", "parts", "soon", "least", "greatest", "closed", "told", "pattern", "heard", "wrong", "before", "after", "jump", "p", "q"]
def w_law_0 : Ss := (.cons (.ife (.not (.call "_law_same" (.cons (.tup (.cons (.call "holds" (.cons (.var 3) (.cons (.ix (.var 5) (.var 7)) .nil))) (.cons (.call "_law_holds" (.cons (.var 3) (.cons (.ix (.var 5) (.var 7)) .nil))) .nil))) (.cons (.tup (.cons (.ix (.var 6) (.var 7)) (.cons (.ix (.var 6) (.var 7)) .nil))) .nil))))
  (.cons (.ret (.lit (.bl false))) .nil)
  .nil) .nil)
def w_law_1 : Ss := (.cons (.ife (.dis (.cons (.cmp .NotEq (.call "heard_by" (.cons (.var 3) (.cons (.var 9) (.cons (.var 8) .nil)))) (.var 8)) (.cons (.cmp .IsNot (.call "wrong_row" (.cons (.var 3) (.cons (.var 9) .nil))) (.lit .non)) .nil)))
  (.cons (.ret (.lit (.bl false))) .nil)
  .nil) .nil)
def w_law_2 : Ss := (.cons (.set 3 (.call "_law_timing" (.cons (.var 1) .nil))) (.cons (.tup [13, 14, 15] (.call "clock_range" (.cons (.var 3) .nil))) (.cons (.ife (.dis (.cons (.not (.call "is_ratio" (.cons (.var 13) .nil))) (.cons (.not (.call "is_ratio" (.cons (.var 14) .nil))) (.cons (.not (.call "is_below" (.cons (.var 13) (.cons (.tup (.cons (.lit (.int 1)) (.cons (.lit (.int 1)) .nil))) .nil)))) (.cons (.not (.call "is_below" (.cons (.tup (.cons (.lit (.int 1)) (.cons (.lit (.int 1)) .nil))) (.cons (.var 14) .nil)))) .nil)))))
  (.cons (.ret (.lit (.bl false))) .nil)
  .nil) (.cons (.set 4 (.bin .Pow (.lit (.int 10)) (.lit (.int 6)))) (.cons (.set 5 (.lst (.cons (.var 13) (.cons (.var 14) (.cons (.call "_law_low" (.cons (.bin .Sub (.bin .Mult (.ix (.var 13) (.lit (.int 0))) (.var 4)) (.ix (.var 13) (.lit (.int 1)))) (.cons (.bin .Mult (.ix (.var 13) (.lit (.int 1))) (.var 4)) .nil))) (.cons (.call "_law_low" (.cons (.bin .Add (.bin .Mult (.ix (.var 14) (.lit (.int 0))) (.var 4)) (.ix (.var 14) (.lit (.int 1)))) (.cons (.bin .Mult (.ix (.var 14) (.lit (.int 1))) (.var 4)) .nil))) .nil)))))) (.cons (.set 5 (.bin .Add (.var 5) (.lst (.cons (.call "_law_low" (.cons (.bin .Add (.bin .Mult (.ix (.var 13) (.lit (.int 0))) (.var 4)) (.ix (.var 13) (.lit (.int 1)))) (.cons (.bin .Mult (.ix (.var 13) (.lit (.int 1))) (.var 4)) .nil))) (.cons (.call "_law_low" (.cons (.bin .Sub (.bin .Mult (.ix (.var 14) (.lit (.int 0))) (.var 4)) (.ix (.var 14) (.lit (.int 1)))) (.cons (.bin .Mult (.ix (.var 14) (.lit (.int 1))) (.var 4)) .nil))) .nil))))) (.cons (.set 6 (.lst (.cons (.lit (.bl true)) (.cons (.var 15) (.cons (.lit (.bl false)) (.cons (.lit (.bl false)) (.cons (.lit (.bl true)) (.cons (.lit (.bl true)) .nil)))))))) (.cons (.for_ (.nm 7) (.r1 (.lit (.int 6))) w_law_0) (.cons (.set 8 (.call "_law_row" (.cons (.var 1) (.cons (.bin .Add (.lit (.int 10)) (.call "_law_take" (.cons (.var 1) (.cons (.lit (.int 51)) .nil)))) .nil)))) (.cons (.for_ (.nm 9) (.sq (.tup (.cons (.var 13) (.cons (.ix (.var 5) (.lit (.int 5))) (.cons (.ix (.var 5) (.lit (.int 4))) .nil))))) w_law_1) (.cons (.set 9 (.call "_law_clock" (.cons (.var 1) .nil))) (.cons (.set 10 (.call "_law_holds" (.cons (.var 3) (.cons (.var 9) .nil)))) (.cons (.ife (.dis (.cons (.not (.call "_law_same" (.cons (.call "holds" (.cons (.var 3) (.cons (.var 9) .nil))) (.cons (.var 10) .nil)))) (.cons (.con (.cons (.var 10) (.cons (.cmp .NotEq (.call "_law_hears" (.cons (.var 3) (.cons (.var 9) (.cons (.var 8) .nil)))) (.var 8)) .nil))) .nil)))
  (.cons (.ret (.lit (.bl false))) .nil)
  .nil) (.cons (.tgt (.tt [.inr [20, 21, 22], .inr [23, 24]]) (.tup (.cons (.var 3) (.cons (.var 9) .nil)))) (.cons (.set 11 (.bin .Add (.bin .Add (.lit (.int 1)) (.var 20)) (.var 21))) (.cons (.set 12 (.dis (.cons (.cmp .GtE (.bin .Mult (.lit (.int 100)) (.bin .Sub (.bin .Mult (.bin .Mult (.lit (.int 10)) (.bi "abs" (.cons (.bin .Sub (.var 23) (.var 24)) .nil))) (.var 11)) (.bin .Mult (.var 22) (.var 23)))) (.bin .Mult (.var 24) (.var 11))) (.cons (.cmp .GtE (.bin .Add (.bin .Mult (.bin .Mult (.lit (.int 9)) (.bin .Sub (.var 23) (.var 24))) (.var 11)) (.bin .Mult (.var 23) (.bin .Add (.lit (.int 1)) (.var 20)))) (.bin .Mult (.var 24) (.var 11))) .nil)))) (.cons (.ife (.con (.cons (.var 10) (.cons (.cmp .IsNot (.call "wrong_row" (.cons (.var 3) (.cons (.var 9) .nil))) (.lit .non)) .nil)))
  (.cons (.ret (.lit (.bl false))) .nil)
  .nil) (.cons (.ife (.con (.cons (.not (.var 10)) (.cons (.var 12) .nil)))
  (.cons (.set 16 (.call "wrong_row" (.cons (.var 3) (.cons (.var 9) .nil)))) (.cons (.ife (.dis (.cons (.not (.isi (.var 16) "tuple")) (.cons (.not (.chn .LtE .LtE (.lit (.int 2)) (.bi "len" (.cons (.var 16) .nil)) (.lit (.int 2000)))) .nil)))
  (.cons (.ret (.lit (.bl false))) .nil)
  .nil) (.cons (.set 17 (.bin .Mult (.bin .Add (.bin .Mult (.tup (.cons (.lit (.int 0)) .nil)) (.lit (.int 5))) (.bin .Mult (.tup (.cons (.lit (.int 1)) .nil)) (.lit (.int 5)))) (.bin .Add (.lit (.int 2)) (.bin .FloorDiv (.bi "len" (.cons (.var 16) .nil)) (.lit (.int 10)))))) (.cons (.set 18 (.call "_law_hears" (.cons (.var 3) (.cons (.var 9) (.cons (.var 17) .nil))))) (.cons (.set 19 (.lc (.var 7) (.nm 7) (.r1 (.bi "len" (.cons (.var 17) .nil))) (.some (.cmp .NotEq (.ix (.var 18) (.var 7)) (.ix (.var 17) (.var 7)))) [("k", 7)])) (.cons (.ife (.dis (.cons (.cmp .Eq (.var 19) (.lst .nil)) (.cons (.not (.call "_law_same" (.cons (.var 16) (.cons (.sl (.var 17) .none (.some (.bin .Add (.ix (.var 19) (.lit (.int 0))) (.lit (.int 2))))) .nil)))) (.cons (.cmp .Eq (.call "_law_hears" (.cons (.var 3) (.cons (.var 9) (.cons (.var 16) .nil)))) (.var 16)) .nil))))
  (.cons (.ret (.lit (.bl false))) .nil)
  .nil) .nil))))))
  .nil) .nil))))))))))))))))))
def m_law : Ss := (.cons (.set 1 (.call "_law_tape" (.cons (.var 0) .nil))) (.cons (.ife (.dis (.cons (.cmp .NotEq (.call "clock_range" (.cons (.tup (.cons (.lit (.int 2)) (.cons (.lit (.int 1)) (.cons (.lit (.int 1)) .nil)))) .nil)) (.tup (.cons (.tup (.cons (.lit (.int 40)) (.cons (.lit (.int 41)) .nil))) (.cons (.tup (.cons (.lit (.int 40)) (.cons (.lit (.int 39)) .nil))) (.cons (.lit (.bl false)) .nil))))) (.cons (.cmp .IsNot (.call "holds" (.cons (.tup (.cons (.lit (.int 2)) (.cons (.lit (.int 1)) (.cons (.lit (.int 1)) .nil)))) (.cons (.tup (.cons (.lit (.int 40)) (.cons (.lit (.int 39)) .nil))) .nil))) (.lit (.bl false))) (.cons (.cmp .IsNot (.call "holds" (.cons (.tup (.cons (.lit (.int 2)) (.cons (.lit (.int 1)) (.cons (.lit (.int 1)) .nil)))) (.cons (.tup (.cons (.lit (.int 40)) (.cons (.lit (.int 41)) .nil))) .nil))) (.lit (.bl true))) (.cons (.cmp .IsNot (.call "wrong_row" (.cons (.tup (.cons (.lit (.int 2)) (.cons (.lit (.int 1)) (.cons (.lit (.int 1)) .nil)))) (.cons (.tup (.cons (.lit (.int 1)) (.cons (.lit (.int 1)) .nil))) .nil))) (.lit .non)) .nil)))))
  (.cons (.ret (.lit (.bl false))) .nil)
  .nil) (.cons (.ife (.dis (.cons (.cmp .NotEq (.call "wrong_row" (.cons (.tup (.cons (.lit (.int 2)) (.cons (.lit (.int 1)) (.cons (.lit (.int 1)) .nil)))) (.cons (.tup (.cons (.lit (.int 6)) (.cons (.lit (.int 5)) .nil))) .nil))) (.tup (.cons (.lit (.int 0)) (.cons (.lit (.int 0)) (.cons (.lit (.int 0)) (.cons (.lit (.int 0)) (.cons (.lit (.int 0)) (.cons (.lit (.int 1)) .nil)))))))) (.cons (.cmp .NotEq (.call "wrong_row" (.cons (.tup (.cons (.lit (.int 2)) (.cons (.lit (.int 1)) (.cons (.lit (.int 1)) .nil)))) (.cons (.tup (.cons (.lit (.int 40)) (.cons (.lit (.int 39)) .nil))) .nil))) (.tup (.cons (.lit (.int 0)) (.cons (.lit (.int 0)) (.cons (.lit (.int 0)) (.cons (.lit (.int 0)) (.cons (.lit (.int 0)) (.cons (.lit (.int 1)) (.cons (.lit (.int 1)) (.cons (.lit (.int 1)) (.cons (.lit (.int 1)) (.cons (.lit (.int 1)) (.cons (.lit (.int 0)) .nil))))))))))))) .nil)))
  (.cons (.ret (.lit (.bl false))) .nil)
  .nil) (.cons (.for_ (.nm 2) (.r1 (.lit (.int 4))) w_law_2) (.cons (.ret (.lit (.bl true))) .nil)))))
def e_law : Fn := ⟨1, 25, m_law⟩
theorem c_law : chkSs fs bs n_law (defScope (top 42)) m_law (defBody (top 42)) = true := by decide +kernel
theorem s_law : FnScope n_law ["script"] (defScope (top 42)) := ⟨by decide +kernel, by decide +kernel, by decide +kernel, by decide +kernel, by decide +kernel, by decide +kernel, by decide +kernel⟩
theorem d_law : DTxt fs bs "law" (top 42) n_law ["script"] e_law := ⟨s_law, rfl, rfl, by decide, c_law, fun kV doc pm an cdv ct us hl => match us, hl with | [_], _ => rfl⟩
def fnL : List (Str × Fn) := [(("is_whole" : Str), e_is_whole), (("divisor_of" : Str), e_divisor_of), (("ratio_of" : Str), e_ratio_of), (("is_ratio" : Str), e_is_ratio), (("sum_of" : Str), e_sum_of), (("less_of" : Str), e_less_of), (("times_of" : Str), e_times_of), (("is_below" : Str), e_is_below), (("floor_of" : Str), e_floor_of), (("bit_parts" : Str), e_bit_parts), (("heard_at" : Str), e_heard_at), (("jump_of" : Str), e_jump_of), (("not_above" : Str), e_not_above), (("holds" : Str), e_holds), (("over" : Str), e_over), (("clock_range" : Str), e_clock_range), (("wire_at" : Str), e_wire_at), (("edge_between" : Str), e_edge_between), (("moved_begin" : Str), e_moved_begin), (("heard_by" : Str), e_heard_by), (("wrong_row" : Str), e_wrong_row), (("_law_mix" : Str), e__law_mix), (("_law_tape" : Str), e__law_tape), (("_law_take" : Str), e__law_take), (("_law_same" : Str), e__law_same), (("_law_timing" : Str), e__law_timing), (("_law_hears" : Str), e__law_hears), (("_law_clock" : Str), e__law_clock), (("_law_row" : Str), e__law_row), (("_law_low" : Str), e__law_low), (("_law_holds" : Str), e__law_holds), (("law" : Str), e_law)]
def glL : List (Str × D) := [("ONE", (.tup [(.int 1), (.int 1)])), ("NOUGHT", (.tup [(.int 0), (.int 1)])), ("FARTHEST_EDGE", (.int 10)), ("STRONG", (.int 0)), ("WEAK", (.int 1)), ("PERIOD", (.tup [(.int 0), (.int 0), (.int 0), (.int 0), (.int 0), (.int 1), (.int 1), (.int 1), (.int 1), (.int 1)]))]
def Q : Pg := ⟨fnL, [], glL⟩
def Gl (x : Str) : Option D := Q.gl.lookup x
@[irreducible] def Fc (n : Nat) (f : Str) : List D → Obs → R D := Q.call lawM n f
theorem Fc_eq (n : Nat) : Fc n = Q.call lawM n := by funext f; unfold Fc; rfl
theorem fn_nodup : (fnL.map (·.1)).Nodup := by decide +kernel
theorem gl_nodup : (glL.map (·.1)).Nodup := by decide +kernel
@[simp] theorem gl_ONE : Gl "ONE" = some (.tup [(.int 1), (.int 1)]) := lookup_at (i := 0) gl_nodup rfl
@[simp] theorem gl_NOUGHT : Gl "NOUGHT" = some (.tup [(.int 0), (.int 1)]) := lookup_at (i := 1) gl_nodup rfl
@[simp] theorem gl_FARTHEST_EDGE : Gl "FARTHEST_EDGE" = some (.int 10) := lookup_at (i := 2) gl_nodup rfl
@[simp] theorem gl_STRONG : Gl "STRONG" = some (.int 0) := lookup_at (i := 3) gl_nodup rfl
@[simp] theorem gl_WEAK : Gl "WEAK" = some (.int 1) := lookup_at (i := 4) gl_nodup rfl
@[simp] theorem gl_PERIOD : Gl "PERIOD" = some (.tup [(.int 0), (.int 0), (.int 0), (.int 0), (.int 0), (.int 1), (.int 1), (.int 1), (.int 1), (.int 1)]) := lookup_at (i := 5) gl_nodup rfl
theorem r_is_whole (n : Nat) (a0 : D) (o : Obs) : Fc (n + 1) "is_whole" [a0] o = endR (denSs (Fc n) Gl lawM m_is_whole [.v a0] o) := by
  rw [Fc_eq, Fc_eq]; exact call_succ (Q := Q) (i := 0) fn_nodup rfl [a0] o rfl
theorem r_divisor_of (n : Nat) (a0 a1 : D) (o : Obs) : Fc (n + 1) "divisor_of" [a0, a1] o = endR (denSs (Fc n) Gl lawM m_divisor_of [.v a0, .v a1] o) := by
  rw [Fc_eq, Fc_eq]; exact call_succ (Q := Q) (i := 1) fn_nodup rfl [a0, a1] o rfl
theorem r_ratio_of (n : Nat) (a0 a1 : D) (o : Obs) : Fc (n + 1) "ratio_of" [a0, a1] o = endR (denSs (Fc n) Gl lawM m_ratio_of [.v a0, .v a1, .un] o) := by
  rw [Fc_eq, Fc_eq]; exact call_succ (Q := Q) (i := 2) fn_nodup rfl [a0, a1] o rfl
theorem r_is_ratio (n : Nat) (a0 : D) (o : Obs) : Fc (n + 1) "is_ratio" [a0] o = endR (denSs (Fc n) Gl lawM m_is_ratio [.v a0] o) := by
  rw [Fc_eq, Fc_eq]; exact call_succ (Q := Q) (i := 3) fn_nodup rfl [a0] o rfl
theorem r_sum_of (n : Nat) (a0 a1 : D) (o : Obs) : Fc (n + 1) "sum_of" [a0, a1] o = endR (denSs (Fc n) Gl lawM m_sum_of [.v a0, .v a1] o) := by
  rw [Fc_eq, Fc_eq]; exact call_succ (Q := Q) (i := 4) fn_nodup rfl [a0, a1] o rfl
theorem r_less_of (n : Nat) (a0 a1 : D) (o : Obs) : Fc (n + 1) "less_of" [a0, a1] o = endR (denSs (Fc n) Gl lawM m_less_of [.v a0, .v a1] o) := by
  rw [Fc_eq, Fc_eq]; exact call_succ (Q := Q) (i := 5) fn_nodup rfl [a0, a1] o rfl
theorem r_times_of (n : Nat) (a0 a1 : D) (o : Obs) : Fc (n + 1) "times_of" [a0, a1] o = endR (denSs (Fc n) Gl lawM m_times_of [.v a0, .v a1] o) := by
  rw [Fc_eq, Fc_eq]; exact call_succ (Q := Q) (i := 6) fn_nodup rfl [a0, a1] o rfl
theorem r_is_below (n : Nat) (a0 a1 : D) (o : Obs) : Fc (n + 1) "is_below" [a0, a1] o = endR (denSs (Fc n) Gl lawM m_is_below [.v a0, .v a1] o) := by
  rw [Fc_eq, Fc_eq]; exact call_succ (Q := Q) (i := 7) fn_nodup rfl [a0, a1] o rfl
theorem r_floor_of (n : Nat) (a0 : D) (o : Obs) : Fc (n + 1) "floor_of" [a0] o = endR (denSs (Fc n) Gl lawM m_floor_of [.v a0] o) := by
  rw [Fc_eq, Fc_eq]; exact call_succ (Q := Q) (i := 8) fn_nodup rfl [a0] o rfl
theorem r_bit_parts (n : Nat) (a0 : D) (o : Obs) : Fc (n + 1) "bit_parts" [a0] o = endR (denSs (Fc n) Gl lawM m_bit_parts [.v a0] o) := by
  rw [Fc_eq, Fc_eq]; exact call_succ (Q := Q) (i := 9) fn_nodup rfl [a0] o rfl
theorem r_heard_at (n : Nat) (a0 : D) (o : Obs) : Fc (n + 1) "heard_at" [a0] o = endR (denSs (Fc n) Gl lawM m_heard_at [.v a0] o) := by
  rw [Fc_eq, Fc_eq]; exact call_succ (Q := Q) (i := 10) fn_nodup rfl [a0] o rfl
theorem r_jump_of (n : Nat) (a0 : D) (o : Obs) : Fc (n + 1) "jump_of" [a0] o = endR (denSs (Fc n) Gl lawM m_jump_of [.v a0] o) := by
  rw [Fc_eq, Fc_eq]; exact call_succ (Q := Q) (i := 11) fn_nodup rfl [a0] o rfl
theorem r_not_above (n : Nat) (a0 a1 : D) (o : Obs) : Fc (n + 1) "not_above" [a0, a1] o = endR (denSs (Fc n) Gl lawM m_not_above [.v a0, .v a1] o) := by
  rw [Fc_eq, Fc_eq]; exact call_succ (Q := Q) (i := 12) fn_nodup rfl [a0, a1] o rfl
theorem r_holds (n : Nat) (a0 a1 : D) (o : Obs) : Fc (n + 1) "holds" [a0, a1] o = endR (denSs (Fc n) Gl lawM m_holds [.v a0, .v a1, .un, .un, .un, .un, .un] o) := by
  rw [Fc_eq, Fc_eq]; exact call_succ (Q := Q) (i := 13) fn_nodup rfl [a0, a1] o rfl
theorem r_over (n : Nat) (a0 a1 : D) (o : Obs) : Fc (n + 1) "over" [a0, a1] o = endR (denSs (Fc n) Gl lawM m_over [.v a0, .v a1] o) := by
  rw [Fc_eq, Fc_eq]; exact call_succ (Q := Q) (i := 14) fn_nodup rfl [a0, a1] o rfl
theorem r_clock_range (n : Nat) (a0 : D) (o : Obs) : Fc (n + 1) "clock_range" [a0] o = endR (denSs (Fc n) Gl lawM m_clock_range [.v a0, .un, .un, .un, .un, .un, .un, .un, .un, .un, .un] o) := by
  rw [Fc_eq, Fc_eq]; exact call_succ (Q := Q) (i := 15) fn_nodup rfl [a0] o rfl
theorem r_wire_at (n : Nat) (a0 a1 : D) (o : Obs) : Fc (n + 1) "wire_at" [a0, a1] o = endR (denSs (Fc n) Gl lawM m_wire_at [.v a0, .v a1, .un] o) := by
  rw [Fc_eq, Fc_eq]; exact call_succ (Q := Q) (i := 16) fn_nodup rfl [a0, a1] o rfl
theorem r_edge_between (n : Nat) (a0 a1 a2 : D) (o : Obs) : Fc (n + 1) "edge_between" [a0, a1, a2] o = endR (denSs (Fc n) Gl lawM m_edge_between [.v a0, .v a1, .v a2, .un] o) := by
  rw [Fc_eq, Fc_eq]; exact call_succ (Q := Q) (i := 17) fn_nodup rfl [a0, a1, a2] o rfl
theorem r_moved_begin (n : Nat) (a0 a1 a2 : D) (o : Obs) : Fc (n + 1) "moved_begin" [a0, a1, a2] o = endR (denSs (Fc n) Gl lawM m_moved_begin [.v a0, .v a1, .v a2, .un] o) := by
  rw [Fc_eq, Fc_eq]; exact call_succ (Q := Q) (i := 18) fn_nodup rfl [a0, a1, a2] o rfl
theorem r_heard_by (n : Nat) (a0 a1 a2 : D) (o : Obs) : Fc (n + 1) "heard_by" [a0, a1, a2] o = endR (denSs (Fc n) Gl lawM m_heard_by [.v a0, .v a1, .v a2, .un, .un, .un, .un, .un, .un, .un, .un] o) := by
  rw [Fc_eq, Fc_eq]; exact call_succ (Q := Q) (i := 19) fn_nodup rfl [a0, a1, a2] o rfl
theorem r_wrong_row (n : Nat) (a0 a1 : D) (o : Obs) : Fc (n + 1) "wrong_row" [a0, a1] o = endR (denSs (Fc n) Gl lawM m_wrong_row [.v a0, .v a1, .un, .un, .un, .un, .un] o) := by
  rw [Fc_eq, Fc_eq]; exact call_succ (Q := Q) (i := 20) fn_nodup rfl [a0, a1] o rfl
theorem r__law_mix (n : Nat) (a0 : D) (o : Obs) : Fc (n + 1) "_law_mix" [a0] o = endR (denSs (Fc n) Gl lawM m__law_mix [.v a0] o) := by
  rw [Fc_eq, Fc_eq]; exact call_succ (Q := Q) (i := 21) fn_nodup rfl [a0] o rfl
theorem r__law_tape (n : Nat) (a0 : D) (o : Obs) : Fc (n + 1) "_law_tape" [a0] o = endR (denSs (Fc n) Gl lawM m__law_tape [.v a0] o) := by
  rw [Fc_eq, Fc_eq]; exact call_succ (Q := Q) (i := 22) fn_nodup rfl [a0] o rfl
theorem r__law_take (n : Nat) (a0 a1 : D) (o : Obs) : Fc (n + 1) "_law_take" [a0, a1] o = endR (denSs (Fc n) Gl lawM m__law_take [.v a0, .v a1, .un, .un] o) := by
  rw [Fc_eq, Fc_eq]; exact call_succ (Q := Q) (i := 23) fn_nodup rfl [a0, a1] o rfl
theorem r__law_same (n : Nat) (a0 a1 : D) (o : Obs) : Fc (n + 1) "_law_same" [a0, a1] o = endR (denSs (Fc n) Gl lawM m__law_same [.v a0, .v a1, .un] o) := by
  rw [Fc_eq, Fc_eq]; exact call_succ (Q := Q) (i := 24) fn_nodup rfl [a0, a1] o rfl
theorem r__law_timing (n : Nat) (a0 : D) (o : Obs) : Fc (n + 1) "_law_timing" [a0] o = endR (denSs (Fc n) Gl lawM m__law_timing [.v a0, .un, .un] o) := by
  rw [Fc_eq, Fc_eq]; exact call_succ (Q := Q) (i := 25) fn_nodup rfl [a0] o rfl
theorem r__law_hears (n : Nat) (a0 a1 a2 : D) (o : Obs) : Fc (n + 1) "_law_hears" [a0, a1, a2] o = endR (denSs (Fc n) Gl lawM m__law_hears [.v a0, .v a1, .v a2, .un, .un, .un, .un, .un, .un, .un, .un, .un, .un, .un, .un, .un, .un, .un, .un, .un] o) := by
  rw [Fc_eq, Fc_eq]; exact call_succ (Q := Q) (i := 26) fn_nodup rfl [a0, a1, a2] o rfl
theorem r__law_clock (n : Nat) (a0 : D) (o : Obs) : Fc (n + 1) "_law_clock" [a0] o = endR (denSs (Fc n) Gl lawM m__law_clock [.v a0, .un, .un, .un, .un] o) := by
  rw [Fc_eq, Fc_eq]; exact call_succ (Q := Q) (i := 27) fn_nodup rfl [a0] o rfl
theorem r__law_row (n : Nat) (a0 a1 : D) (o : Obs) : Fc (n + 1) "_law_row" [a0, a1] o = endR (denSs (Fc n) Gl lawM m__law_row [.v a0, .v a1, .un, .un] o) := by
  rw [Fc_eq, Fc_eq]; exact call_succ (Q := Q) (i := 28) fn_nodup rfl [a0, a1] o rfl
theorem r__law_low (n : Nat) (a0 a1 : D) (o : Obs) : Fc (n + 1) "_law_low" [a0, a1] o = endR (denSs (Fc n) Gl lawM m__law_low [.v a0, .v a1, .un, .un] o) := by
  rw [Fc_eq, Fc_eq]; exact call_succ (Q := Q) (i := 29) fn_nodup rfl [a0, a1] o rfl
theorem r__law_holds (n : Nat) (a0 a1 : D) (o : Obs) : Fc (n + 1) "_law_holds" [a0, a1] o = endR (denSs (Fc n) Gl lawM m__law_holds [.v a0, .v a1, .un, .un, .un, .un, .un, .un, .un] o) := by
  rw [Fc_eq, Fc_eq]; exact call_succ (Q := Q) (i := 30) fn_nodup rfl [a0, a1] o rfl
theorem r_law (n : Nat) (a0 : D) (o : Obs) : Fc (n + 1) "law" [a0] o = endR (denSs (Fc n) Gl lawM m_law [.v a0, .un, .un, .un, .un, .un, .un, .un, .un, .un, .un, .un, .un, .un, .un, .un, .un, .un, .un, .un, .un, .un, .un, .un, .un] o) := by
  rw [Fc_eq, Fc_eq]; exact call_succ (Q := Q) (i := 31) fn_nodup rfl [a0] o rfl
def cs : List Str := []
theorem ready_mk {PP : Program} {K : PySem.W.Frag} {h : Heap} {mg : Str → Option Value} (X : K.In h) (G : h.Ns mainGlobals mg) (d0 : Known K "is_whole" (top 1)) (d1 : Known K "divisor_of" (top 3)) (d2 : Known K "ratio_of" (top 4)) (d3 : Known K "is_ratio" (top 5)) (d4 : Known K "sum_of" (top 6)) (d5 : Known K "less_of" (top 7)) (d6 : Known K "times_of" (top 8)) (d7 : Known K "is_below" (top 9)) (d8 : Known K "floor_of" (top 10)) (d9 : Known K "bit_parts" (top 15)) (d10 : Known K "heard_at" (top 16)) (d11 : Known K "jump_of" (top 17)) (d12 : Known K "not_above" (top 18)) (d13 : Known K "holds" (top 19)) (d14 : Known K "over" (top 20)) (d15 : Known K "clock_range" (top 21)) (d16 : Known K "wire_at" (top 26)) (d17 : Known K "edge_between" (top 27)) (d18 : Known K "moved_begin" (top 28)) (d19 : Known K "heard_by" (top 29)) (d20 : Known K "wrong_row" (top 30)) (d21 : Known K "_law_mix" (top 32)) (d22 : Known K "_law_tape" (top 33)) (d23 : Known K "_law_take" (top 34)) (d24 : Known K "_law_same" (top 35)) (d25 : Known K "_law_timing" (top 36)) (d26 : Known K "_law_hears" (top 37)) (d27 : Known K "_law_clock" (top 38)) (d28 : Known K "_law_row" (top 39)) (d29 : Known K "_law_low" (top 40)) (d30 : Known K "_law_holds" (top 41)) (d31 : Known K "law" (top 42)) (g0 : GC K "ONE" (.tup [(.int 1), (.int 1)])) (g1 : GC K "NOUGHT" (.tup [(.int 0), (.int 1)])) (g2 : GC K "FARTHEST_EDGE" (.int 10)) (g3 : GC K "STRONG" (.int 0)) (g4 : GC K "WEAK" (.int 1)) (g5 : GC K "PERIOD" (.tup [(.int 0), (.int 0), (.int 0), (.int 0), (.int 0), (.int 1), (.int 1), (.int 1), (.int 1), (.int 1)])) (b0 : PySem.W.nsIn K mainGlobals "abs" = some none) (b1 : PySem.W.nsIn K mainGlobals "all" = some none) (b2 : PySem.W.nsIn K mainGlobals "bool" = some none) (b3 : PySem.W.nsIn K mainGlobals "int" = some none) (b4 : PySem.W.nsIn K mainGlobals "isinstance" = some none) (b5 : PySem.W.nsIn K mainGlobals "len" = some none) (b6 : PySem.W.nsIn K mainGlobals "list" = some none) (b7 : PySem.W.nsIn K mainGlobals "max" = some none) (b8 : PySem.W.nsIn K mainGlobals "min" = some none) (b9 : PySem.W.nsIn K mainGlobals "range" = some none) (b10 : PySem.W.nsIn K mainGlobals "str" = some none) (b11 : PySem.W.nsIn K mainGlobals "tuple" = some none) :
    Ready PP K mg fs bs cs Q ∧ Known K "law" (top 42) :=
  ⟨⟨trivial, ⟨PySem.W.mg_none_of X G b0, PySem.W.mg_none_of X G b1, PySem.W.mg_none_of X G b2, PySem.W.mg_none_of X G b3, PySem.W.mg_none_of X G b4, PySem.W.mg_none_of X G b5, PySem.W.mg_none_of X G b6, PySem.W.mg_none_of X G b7, PySem.W.mg_none_of X G b8, PySem.W.mg_none_of X G b9, PySem.W.mg_none_of X G b10, PySem.W.mg_none_of X G b11, trivial⟩, ⟨g0.ok X G, g1.ok X G, g2.ok X G, g3.ok X G, g4.ok X G, g5.ok X G, trivial⟩, ⟨d0.ok X G d_is_whole, d1.ok X G d_divisor_of, d2.ok X G d_ratio_of, d3.ok X G d_is_ratio, d4.ok X G d_sum_of, d5.ok X G d_less_of, d6.ok X G d_times_of, d7.ok X G d_is_below, d8.ok X G d_floor_of, d9.ok X G d_bit_parts, d10.ok X G d_heard_at, d11.ok X G d_jump_of, d12.ok X G d_not_above, d13.ok X G d_holds, d14.ok X G d_over, d15.ok X G d_clock_range, d16.ok X G d_wire_at, d17.ok X G d_edge_between, d18.ok X G d_moved_begin, d19.ok X G d_heard_by, d20.ok X G d_wrong_row, d21.ok X G d__law_mix, d22.ok X G d__law_tape, d23.ok X G d__law_take, d24.ok X G d__law_same, d25.ok X G d__law_timing, d26.ok X G d__law_hears, d27.ok X G d__law_clock, d28.ok X G d__law_row, d29.ok X G d__law_low, d30.ok X G d__law_holds, d31.ok X G d_law, trivial⟩⟩, d31⟩
end Mp

set_option Elab.async false
set_option linter.all false
set_option maxRecDepth 100000
namespace Mp
open PySem PySem.Spec PyProof.Rows L2
/-! ### the tape of drawn numbers -/
structure Tp where
  cells : List Int
  k : Int
  d : Int
  x : Int
def tp (s : Tp) (r : Obs) : Obs := .ls (s.cells.map .int) :: .ls [.obj 0, .int s.k, .int s.d, .int s.x] :: r
@[simp] theorem lsO_tp0 (s : Tp) (r : Obs) : lsO (tp s r) (.obj 0) = some (s.cells.map .int) := (rfl)
@[simp] theorem lsO_tp1 (s : Tp) (r : Obs) : lsO (tp s r) (.obj 1) = some [.obj 0, .int s.k, .int s.d, .int s.x] := (rfl)
@[simp] theorem setO_tp1 (s : Tp) (r : Obs) (k d x : Int) : setO (tp s r) (.obj 1) [.obj 0, .int k, .int d, .int x] = tp ⟨s.cells, k, d, x⟩ r := (rfl)
@[simp] theorem noLO_tp (s : Tp) : (tp s []).all noLO = true := by
  have : ∀ l : List Int, noLs (l.map D.int) = true := fun l => by
    induction l with
    | nil => rfl
    | cons a l ih => simp only [List.map_cons, noLs, noL, Bool.true_and]; exact ih
  simp only [tp, List.all_cons, noLO, this, Bool.true_and]
  rfl
@[simp] theorem ixN_41 : ixN 4 1 = some 1 := (rfl)
@[simp] theorem ixN_42 : ixN 4 2 = some 2 := (rfl)
@[simp] theorem ixN_43 : ixN 4 3 = some 3 := (rfl)
@[simp] theorem pow_18 : powD (.int 10) (.int 18) = some (.int 1000000000000000000) := (rfl)
theorem mix_ok (v : Int) (o : Obs) (n : Nat) : ∃ w, Fc (n + 1) "_law_mix" [.int v] o = .ok (.int w) o := by
  have h := Int.emod_lt_of_pos (v * 6364136223846793005 + 1442695040888963407) (b := 18446744073709551616) (by decide)
  have h2 := Int.emod_nonneg (v * 6364136223846793005 + 1442695040888963407) (b := 18446744073709551616) (by decide)
  have e : (v * 6364136223846793005 + 1442695040888963407).fmod 18446744073709551616 = (v * 6364136223846793005 + 1442695040888963407) % 18446744073709551616 := Int.fmod_eq_emod_of_nonneg _ (by decide)
  generalize hw : (v * 6364136223846793005 + 1442695040888963407) % 18446744073709551616 = w at *
  have hm : mulOk w w = true := mulOk_l (by omega)
  rw [r__law_mix]
  simp [m__law_mix, e, hm]
theorem take_ok (s : Tp) (r : Obs) (n : Nat) {many : Int} (hk : 0 ≤ s.k) (h1 : 1 ≤ many) (h2 : many < 1073741824) : ∃ d s', Fc (n + 2) "_law_take" [.obj 1, .int many] (tp s r) = .ok (.int d) (tp s' r) ∧ 0 ≤ d ∧ d < many ∧ 0 ≤ s'.k := by
  rw [r__law_take]
  have h0 : ¬ many = 0 := by omega
  have h3 : many.natAbs < 1073741824 := by omega
  have fin : ∀ v : Int, 0 ≤ v.fmod many ∧ v.fmod many < many := fun v => ⟨Int.fmod_nonneg_of_pos _ (by omega), Int.fmod_lt_of_pos _ (by omega)⟩
  obtain ⟨cells, k, d, x⟩ := s
  have hk : 0 ≤ k := hk
  by_cases h : d < many
  · by_cases hl : k < (cells.length : Int)
    · obtain ⟨c, hc, _⟩ := atI_mem (l := cells) hk hl
      have hat : atI (cells.map D.int) k = some (.int c) := by
        have e1 := atI_get (l := cells) hk hl
        have e2 := atI_get (l := cells.map D.int) hk (by simpa using hl)
        rw [e2, List.getElem_map]
        rw [e1] at hc; cases hc; rfl
      obtain ⟨c2, hc2⟩ : ∃ c2, c2 = if 0 ≤ c then 2 * c else -2 * c - 1 := ⟨_, rfl⟩
      by_cases hb : 1000000000000000000 ≤ c2
      · by_cases q : 0 ≤ c
        · rw [if_pos q] at hc2; subst hc2
          obtain ⟨w, e⟩ := mix_ok (x + 2 * c) (tp ⟨cells, k + 1, d, x⟩ r) n
          refine ⟨(2 * c).fmod many, ⟨cells, k + 1, (2 * c).fdiv many, w⟩, ?_, (fin _).1, (fin _).2, by show 0 ≤ k + 1; omega⟩
          simp [m__law_take, h, hl, hat, q, e, hb, h0, h3, mulOk_l]
        · rw [if_neg q] at hc2; subst hc2
          obtain ⟨w, e⟩ := mix_ok (x + (-2 * c - 1)) (tp ⟨cells, k + 1, d, x⟩ r) n
          refine ⟨(-2 * c - 1).fmod many, ⟨cells, k + 1, (-2 * c - 1).fdiv many, w⟩, ?_, (fin _).1, (fin _).2, by show 0 ≤ k + 1; omega⟩
          simp [m__law_take, h, hl, hat, q, e, hb, h0, h3, mulOk_l]
      · by_cases q : 0 ≤ c
        · rw [if_pos q] at hc2; subst hc2
          obtain ⟨w, e⟩ := mix_ok (x + 2 * c) (tp ⟨cells, k + 1, d, x⟩ r) n
          obtain ⟨w2, e2⟩ := mix_ok (2 * c) (tp ⟨cells, k + 1, d, w⟩ r) n
          obtain ⟨w3, e3⟩ := mix_ok (w2 + (k + 1)) (tp ⟨cells, k + 1, d, w⟩ r) n
          refine ⟨w3.fmod many, ⟨cells, k + 1, w3.fdiv many, w⟩, ?_, (fin _).1, (fin _).2, by show 0 ≤ k + 1; omega⟩
          simp [m__law_take, h, hl, hat, q, e, e2, e3, hb, h0, h3, mulOk_l]
        · rw [if_neg q] at hc2; subst hc2
          obtain ⟨w, e⟩ := mix_ok (x + (-2 * c - 1)) (tp ⟨cells, k + 1, d, x⟩ r) n
          obtain ⟨w2, e2⟩ := mix_ok (-2 * c - 1) (tp ⟨cells, k + 1, d, w⟩ r) n
          obtain ⟨w3, e3⟩ := mix_ok (w2 + (k + 1)) (tp ⟨cells, k + 1, d, w⟩ r) n
          refine ⟨w3.fmod many, ⟨cells, k + 1, w3.fdiv many, w⟩, ?_, (fin _).1, (fin _).2, by show 0 ≤ k + 1; omega⟩
          simp [m__law_take, h, hl, hat, q, e, e2, e3, hb, h0, h3, mulOk_l]
    · obtain ⟨w, e⟩ := mix_ok (x + 1) (tp ⟨cells, k, d, x⟩ r) n
      refine ⟨w.fmod many, ⟨cells, k, w.fdiv many, w⟩, ?_, (fin _).1, (fin _).2, hk⟩
      simp [m__law_take, h, hl, e, h0, h3]
  · refine ⟨d.fmod many, ⟨cells, k, d.fdiv many, x⟩, ?_, (fin _).1, (fin _).2, hk⟩
    simp [m__law_take, h, h0, h3]
theorem take_wp {s : Tp} {r : Obs} {n : Nat} {many : Int} {P : D → Obs → Prop} (hn : 2 ≤ n) (hk : 0 ≤ s.k) (h1 : 1 ≤ many) (h2 : many < 1073741824) (h : ∀ d s', 0 ≤ d → d < many → 0 ≤ s'.k → P (.int d) (tp s' r)) : (Fc n "_law_take" [.obj 1, .int many] (tp s r)).wp P := by
  obtain ⟨k, rfl⟩ : ∃ k, n = k + 2 := ⟨n - 2, by omega⟩
  obtain ⟨d, s', e, p, q, z⟩ := take_ok s r k hk h1 h2
  rw [e]
  exact h d s' p q z
theorem tape_ok (ns : List Int) (n : Nat) : ∃ s', Fc (n + 1) "_law_tape" [.loc ns] [] = .ok (.obj 1) (tp s' []) ∧ 0 ≤ s'.k := by
  rw [r__law_tape]
  refine ⟨⟨ns.take 80, 0, 0, 1 + ns.length⟩, ?_, Int.le_refl 0⟩
  simp [m__law_tape, cut_to, tp]
/-! ### _law_same: plain data are as they are -/
theorem lc_same (n : Nat) (o : Obs) (ih : ∀ (d : D) (o : Obs), plainD d = true → depD d < n → Fc n "_law_same" [d, d] o = .ok (.bl true) o) (ds : List D) (x y : D) (hix : ∀ (i : Nat) (e : D), ds[i]? = some e → ixD x (.int i) = some e ∧ ixD y (.int i) = some e) (hds : ∀ e ∈ ds, plainD e = true ∧ depD e < n) (hl : ds.length < 16777216) :
        lcD [2] (.nm 2) (denC (Fc n) Gl .none) (denE (Fc n) Gl (.call "_law_same" (.cons (.ix (.var 0) (.var 2)) (.cons (.ix (.var 1) (.var 2)) .nil)))) [.v x, .v y, .un] (rangeD 0 ds.length 1) [] o = .ok ((rangeD 0 ds.length 1).map fun _ => .bl true) o := by
      have := lcD_map (own := [2]) (tg := .nm 2) (t := denC (Fc n) Gl .none) (x := denE (Fc n) Gl (.call "_law_same" (.cons (.ix (.var 0) (.var 2)) (.cons (.ix (.var 1) (.var 2)) .nil)))) (env := [.v x, .v y, .un]) (o := o) (p := fun _ => true) (f := fun _ => .bl true) (ds := rangeD 0 ds.length 1) (acc := []) (by simp [rangeD_len]; omega) (fun d hd => by
        obtain ⟨i, hi⟩ := List.getElem?_of_mem hd
        obtain ⟨h1, rfl⟩ := rangeD_at hi
        refine ⟨_, rfl, by simp, fun _ => ?_⟩
        have he := List.getElem?_eq_getElem h1
        obtain ⟨a, b⟩ := hix i _ he
        have z := hds _ (List.getElem_mem h1)
        simp [a, b, ih _ o z.1 z.2])
      rw [this, filter_true, List.nil_append]
theorem same_ok : ∀ (n : Nat) (d : D) (o : Obs), plainD d = true → depD d < n → Fc n "_law_same" [d, d] o = .ok (.bl true) o := by
  intro n
  induction n with
  | zero => exact fun _ _ _ h => absurd h (Nat.not_lt_zero _)
  | succ n ih =>
    intro d o hp hd
    rw [r__law_same]
    cases d with
    | non => simp [m__law_same]
    | bl b => simp [m__law_same]
    | int b => simp [m__law_same]
    | str b =>
      have h : okS b = true := by simpa only [plainD] using hp
      simp [m__law_same, h]
    | tup ds =>
      simp only [plainD, Bool.and_eq_true, decide_eq_true_eq] at hp
      simp only [depD] at hd
      have := lc_same n o ih ds (.tup ds) (.tup ds) (fun i e h => ⟨(by rw [ix_tup, atI_nat (List.getElem?_eq_some_iff.mp h).1]; exact h), (by rw [ix_tup, atI_nat (List.getElem?_eq_some_iff.mp h).1]; exact h)⟩) (fun e he => ⟨plainDs_get hp.1 he, by have := depDs_get he; omega⟩) hp.2
      simp [m__law_same, hp.2, this, rangeD_len]
    | lst ds =>
      simp only [plainD, Bool.and_eq_true, decide_eq_true_eq] at hp
      simp only [depD] at hd
      have := lc_same n o ih ds (.lst ds) (.lst ds) (fun i e h => ⟨(by rw [ix_lst, atI_nat (List.getElem?_eq_some_iff.mp h).1]; exact h), (by rw [ix_lst, atI_nat (List.getElem?_eq_some_iff.mp h).1]; exact h)⟩) (fun e he => ⟨plainDs_get hp.1 he, by have := depDs_get he; omega⟩) hp.2
      simp [m__law_same, hp.2, this, rangeD_len]
    | _ => simp [plainD] at hp
/-! ### ratios -/
@[simp] theorem abs_int (i : Int) : biD "abs" [.int i] = some (.int (i.natAbs : Nat)) := by
  show some (D.int (if i < 0 then -i else i)) = _
  congr 2
  split <;> omega
@[simp] theorem tru_int (i : Int) : truD (.int i) = some (i != 0) := (rfl)
@[simp] theorem mod_nat (a b : Nat) (h : ¬ b = 0) : modD (.int a) (.int b) = some (.int ((a % b : Nat) : Int)) := by
  rw [mod_int, if_neg (by omega), Int.fmod_eq_emod_of_nonneg _ (by omega)]; rfl
/-- how long Euclid's steps go on -/
def Eu (k a b : Nat) : Prop := (b ≤ a ∧ a * b < 2 ^ k) ∨ (k = 401 ∧ b < 2 ^ 200)
theorem eu_step {k a b : Nat} (h : Eu k a b) (hb : b ≠ 0) : ∃ k', k = k' + 1 ∧ Eu k' b (a % b) := by
  have hp : 0 < b := Nat.pos_of_ne_zero hb
  have hm := Nat.mod_lt a hp
  rcases h with ⟨h1, h2⟩ | ⟨rfl, h2⟩
  · cases k with
    | zero =>
      have := Nat.mul_pos (show 0 < a by omega) hp
      rw [Nat.pow_zero] at h2
      omega
    | succ k =>
      refine ⟨k, rfl, .inl ⟨by omega, ?_⟩⟩
      have e := Nat.div_add_mod a b
      have d : 1 ≤ a / b := Nat.div_pos h1 hp
      have m : b * 1 ≤ b * (a / b) := Nat.mul_le_mul_left b d
      have t : 2 * (a % b) ≤ a := by omega
      have t2 := Nat.mul_le_mul_left b t
      rw [Nat.pow_succ] at h2
      have z1 : b * (2 * (a % b)) = 2 * (b * (a % b)) := by ac_rfl
      have z2 : b * a = a * b := Nat.mul_comm _ _
      omega
  · refine ⟨400, rfl, .inl ⟨by omega, ?_⟩⟩
    have t : b * (a % b) < 2 ^ 200 * 2 ^ 200 := Nat.mul_lt_mul_of_lt_of_lt h2 (by omega)
    rwa [← Nat.pow_add] at t
theorem eu_first {b : Nat} (a : Nat) (h : b < 2 ^ 200) : Eu 401 a b := .inr ⟨rfl, h⟩
theorem divOk_b {b : Int} (h0 : 0 < b) (h : b < 2 ^ 200) : divOk b = true := by
  refine divOk_w h0 ?_
  rw [Nat.log2_lt (by omega)]
  exact Nat.lt_of_lt_of_le (show b.natAbs < 2 ^ 200 by omega) (Nat.pow_le_pow_right (by decide) (by decide))
theorem gcd_ok (p q : Int) (n : Nat) (o : Obs) (hq : q.natAbs < 2 ^ 200) : Fc (n + 1) "divisor_of" [.int p, .int q] o = .ok (.int (Int.gcd p q : Nat)) o := by
  rw [r_divisor_of]
  simp [m_divisor_of]
  refine endR_seq (whileD_wp (fun k env o' => o' = o ∧ ∃ a b : Nat, env = [.v (.int a), .v (.int b)] ∧ Nat.gcd a b = Int.gcd p q ∧ Eu k a b) ?_ (k := 401) (by decide) ⟨rfl, p.natAbs, q.natAbs, rfl, rfl, eu_first _ hq⟩)
  rintro k env o' ⟨rfl, a, b, rfl, hg, hb⟩
  by_cases h : b = 0
  · subst h
    simp
    rw [← hg]; simp
  · have h1 : ((b : Int) != 0) = true := by simpa using h
    obtain ⟨k', hk, he⟩ := eu_step hb h
    simp [h1]
    refine ⟨k', hk, ?_⟩
    simp [w_divisor_of_0, h]
    exact ⟨b, a % b, ⟨rfl, by rw [Int.fmod_eq_emod_of_nonneg _ (by omega)]; rfl⟩, by rw [Nat.gcd_comm, ← Nat.gcd_rec, Nat.gcd_comm]; exact hg, he⟩
/-- in lowest terms -/
@[irreducible] def rt (p q : Int) : D := .tup [.int (p / (Int.gcd p q : Nat)), .int (q / (Int.gcd p q : Nat))]
theorem rt_def (p q : Int) : rt p q = .tup [.int (p / (Int.gcd p q : Nat)), .int (q / (Int.gcd p q : Nat))] := by unfold rt; rfl
theorem rt_parts (A : Int) {U : Int} (h : 0 < U) : ∃ a b g : Int, rt A U = .tup [.int a, .int b] ∧ 0 < b ∧ b ≤ U ∧ 0 < g ∧ A = a * g ∧ U = b * g ∧ Int.gcd a b = 1 := by
  have hg : 0 < Int.gcd A U := Int.gcd_pos_of_ne_zero_right _ (by omega)
  have e1 : A / (Int.gcd A U : Nat) * (Int.gcd A U : Nat) = A := Int.ediv_mul_cancel (Int.gcd_dvd_left ..)
  have e2 : U / (Int.gcd A U : Nat) * (Int.gcd A U : Nat) = U := Int.ediv_mul_cancel (Int.gcd_dvd_right ..)
  have hb : 0 < U / (Int.gcd A U : Nat) := Int.ediv_pos_of_pos_of_dvd h (by omega) (Int.gcd_dvd_right ..)
  refine ⟨_, _, (Int.gcd A U : Nat), rt_def A U, hb, ?_, by omega, e1.symm, e2.symm, ?_⟩
  · exact Int.ediv_le_self _ (by omega)
  · rw [Int.gcd_ediv_gcd_ediv_gcd hg]
theorem dvd_cop {a b c : Int} (h : b ∣ c * a) (g : Int.gcd a b = 1) : b ∣ c := by
  have t : b ∣ (Int.gcd (c * a) (c * b) : Nat) := Int.dvd_coe_gcd h (Int.dvd_mul_left ..)
  rw [Int.gcd_mul_left, g, Nat.mul_one] at t
  exact Int.dvd_natAbs.mp t
theorem rt_eq {p q p' q' : Int} (h : 0 < q) (h' : 0 < q') (e : p * q' = p' * q) : rt p q = rt p' q' := by
  obtain ⟨a, b, g, r1, hb, _, hg, e1, e2, c1⟩ := rt_parts p h
  obtain ⟨a', b', g', r2, hb', _, hg', e1', e2', c2⟩ := rt_parts p' h'
  have e3 : a * b' = a' * b := by
    subst e1 e2 e1' e2'
    have : (a * b') * (g * g') = (a' * b) * (g * g') := by
      have z : a * g * (b' * g') = a' * g' * (b * g) := e
      rw [show a * b' * (g * g') = a * g * (b' * g') from by ac_rfl, z]; ac_rfl
    exact Int.eq_of_mul_eq_mul_right (by have := Int.mul_pos hg hg'; omega) this
  have d1 : b ∣ b' := by
    have : b ∣ a * b' := ⟨a', by rw [e3, Int.mul_comm]⟩
    rw [Int.mul_comm] at this
    exact dvd_cop this c1
  have d2 : b' ∣ b := by
    have : b' ∣ a' * b := ⟨a, by rw [← e3, Int.mul_comm]⟩
    rw [Int.mul_comm] at this
    exact dvd_cop this c2
  have hbb : b = b' := Int.le_antisymm (Int.le_of_dvd hb' d1) (Int.le_of_dvd hb d2)
  subst hbb
  have haa : a = a' := Int.eq_of_mul_eq_mul_right (by omega) e3
  subst haa
  rw [r1, r2]
theorem rt_of {a b : Int} (h : 0 < b) (c : Int.gcd a b = 1) : rt a b = .tup [.int a, .int b] := by
  rw [rt_def, c]; simp
theorem ratio_ok {p q : Int} (n : Nat) (o : Obs) (h : 0 < q) (h2 : q < 2 ^ 200) : Fc (n + 2) "ratio_of" [.int p, .int q] o = .ok (rt p q) o := by
  rw [r_ratio_of, rt_def]
  have h1 : ¬ q < 0 := by omega
  have e := gcd_ok p q n o (by omega)
  have hg : 0 < Int.gcd p q := Int.gcd_pos_of_ne_zero_right _ (by omega)
  have hle : (Int.gcd p q : Nat) ≤ q.natAbs := Nat.le_of_dvd (by omega) (Int.gcd_dvd_natAbs_right ..)
  generalize Int.gcd p q = g at *
  have k1 : divOk (g : Int) = true := divOk_b (by omega) (by omega)
  have k2 : ∀ x : Int, x.fdiv g = x / g := fun x => Int.fdiv_eq_ediv_of_nonneg _ (by omega)
  simp [m_ratio_of, h1, e, k1, k2]
theorem two_of (f : Int → Int → Int) (hf : ∀ x y k, f (x * k) (y * k) = f x y * k) {U V : Int} (h : 0 < U) (h' : 0 < V) (A B : Int) {a b g a' b' g' : Int} (hb : 0 < b) (hb' : 0 < b') (e1 : A = a * g) (e2 : U = b * g) (e3 : B = a' * g') (e4 : V = b' * g') : rt (f (a * b') (a' * b)) (b * b') = rt (f (A * V) (B * U)) (U * V) := by
  refine rt_eq (Int.mul_pos hb hb') (Int.mul_pos h h') ?_
  rw [← hf, ← hf]
  have z1 : a * b' * (U * V) = A * V * (b * b') := by rw [e1, e2]; ac_rfl
  have z2 : a' * b * (U * V) = B * U * (b * b') := by rw [e3, e4]; ac_rfl
  rw [z1, z2]
theorem prod_lt {b b' U V : Int} (hb : 0 < b) (hb' : 0 < b') (hl : b ≤ U) (hl' : b' ≤ V) (h : U < 1099511627776) (h' : V < 1099511627776) : b * b' < 2 ^ 200 := by
  have := Int.mul_le_mul (a := b) (b := b') (c := 1099511627776) (d := 1099511627776) (by omega) (by omega) (by omega) (by omega)
  exact Int.lt_of_le_of_lt this (by decide)
section
variable {U V : Int} (h : 0 < U) (h2 : U < 1099511627776) (h' : 0 < V) (h2' : V < 1099511627776)
include h h2 h' h2'
theorem rsum2 (A B : Int) (n : Nat) (o : Obs) : Fc (n + 3) "sum_of" [rt A U, rt B V] o = .ok (rt (A * V + B * U) (U * V)) o := by
  obtain ⟨a, b, g, r1, hb, hl, hg, e1, e2, _⟩ := rt_parts A h
  obtain ⟨a', b', g', r2, hb', hl', hg', e1', e2', _⟩ := rt_parts B h'
  have k := prod_lt hb hb' hl hl' h2 h2'
  rw [r1, r2, r_sum_of, ← two_of (fun x y => x + y) (fun x y k => (Int.add_mul x y k).symm) h h' A B hb hb' e1 e2 e1' e2', ← ratio_ok n o (Int.mul_pos hb hb') k]
  have m1 : ∀ x, mulOk x b' = true := fun x => mulOk_r (by omega)
  have m2 : ∀ x, mulOk x b = true := fun x => mulOk_r (by omega)
  have := ratio_ok (p := a * b' + a' * b) n o (Int.mul_pos hb hb') k
  simp [m_sum_of, m1, m2, this]
theorem rless2 (A B : Int) (n : Nat) (o : Obs) : Fc (n + 3) "less_of" [rt A U, rt B V] o = .ok (rt (A * V - B * U) (U * V)) o := by
  obtain ⟨a, b, g, r1, hb, hl, hg, e1, e2, _⟩ := rt_parts A h
  obtain ⟨a', b', g', r2, hb', hl', hg', e1', e2', _⟩ := rt_parts B h'
  have k := prod_lt hb hb' hl hl' h2 h2'
  rw [r1, r2, r_less_of, ← two_of (fun x y => x - y) (fun x y k => (Int.sub_mul x y k).symm) h h' A B hb hb' e1 e2 e1' e2', ← ratio_ok n o (Int.mul_pos hb hb') k]
  have m1 : ∀ x, mulOk x b' = true := fun x => mulOk_r (by omega)
  have m2 : ∀ x, mulOk x b = true := fun x => mulOk_r (by omega)
  have := ratio_ok (p := a * b' - a' * b) n o (Int.mul_pos hb hb') k
  simp [m_less_of, m1, m2, this]
theorem below2 (A B : Int) (n : Nat) (o : Obs) : Fc (n + 1) "is_below" [rt A U, rt B V] o = .ok (.bl (decide (A * V < B * U))) o := by
  obtain ⟨a, b, g, r1, hb, hl, hg, e1, e2, _⟩ := rt_parts A h
  obtain ⟨a', b', g', r2, hb', hl', hg', e1', e2', _⟩ := rt_parts B h'
  have m1 : ∀ x, mulOk x b' = true := fun x => mulOk_r (by omega)
  have m2 : ∀ x, mulOk x b = true := fun x => mulOk_r (by omega)
  have z1 : a * b' * (U * V) = A * V * (b * b') := by rw [e1, e2]; ac_rfl
  have z2 : a' * b * (U * V) = B * U * (b * b') := by rw [e1', e2']; ac_rfl
  have key : a * b' < a' * b ↔ A * V < B * U := by
    rw [← Int.mul_lt_mul_right (Int.mul_pos h h'), z1, z2, Int.mul_lt_mul_right (Int.mul_pos hb hb')]
  rw [r1, r2, r_is_below]
  simp [m_is_below, m1, m2, key]
theorem rtimes2 (A B : Int) (n : Nat) (o : Obs) (hB : B.natAbs < 18446744073709551616) : Fc (n + 3) "times_of" [rt A U, rt B V] o = .ok (rt (A * B) (U * V)) o := by
  obtain ⟨a, b, g, r1, hb, hl, hg, e1, e2, _⟩ := rt_parts A h
  obtain ⟨a', b', g', r2, hb', hl', hg', e1', e2', _⟩ := rt_parts B h'
  have k := prod_lt hb hb' hl hl' h2 h2'
  have ha : a'.natAbs < 18446744073709551616 := by
    have : a'.natAbs ≤ B.natAbs := by
      rw [e1', Int.natAbs_mul]
      have := Nat.mul_le_mul_left a'.natAbs (show 1 ≤ g'.natAbs by omega)
      omega
    omega
  have m1 : ∀ x, mulOk x a' = true := fun x => mulOk_r ha
  have m2 : ∀ x, mulOk x b' = true := fun x => mulOk_r (by omega)
  have e : rt (a * a') (b * b') = rt (A * B) (U * V) := rt_eq (Int.mul_pos hb hb') (Int.mul_pos h h') (by rw [e1, e2, e1', e2']; ac_rfl)
  have := ratio_ok (p := a * a') n o (Int.mul_pos hb hb') k
  rw [r1, r2, r_times_of]
  simp [m_times_of, m1, m2, this, e]
end
section
variable {U : Int} (h : 0 < U) (h2 : U < 1099511627776)
include h h2
theorem rt_add (A B : Int) : rt (A * U + B * U) (U * U) = rt (A + B) U := rt_eq (Int.mul_pos h h) h (by rw [← Int.add_mul]; ac_rfl)
theorem rt_sub (A B : Int) : rt (A * U - B * U) (U * U) = rt (A - B) U := rt_eq (Int.mul_pos h h) h (by rw [← Int.sub_mul]; ac_rfl)
theorem rsum_ok (A B : Int) (n : Nat) (o : Obs) : Fc (n + 3) "sum_of" [rt A U, rt B U] o = .ok (rt (A + B) U) o := by
  rw [rsum2 h h2 h h2, rt_add h h2]
theorem rless_ok (A B : Int) (n : Nat) (o : Obs) : Fc (n + 3) "less_of" [rt A U, rt B U] o = .ok (rt (A - B) U) o := by
  rw [rless2 h h2 h h2, rt_sub h h2]
theorem below_ok (A B : Int) (n : Nat) (o : Obs) : Fc (n + 1) "is_below" [rt A U, rt B U] o = .ok (.bl (decide (A < B))) o := by
  rw [below2 h h2 h h2]
  simp only [Int.mul_lt_mul_right h]
theorem floor_ok (A : Int) (n : Nat) (o : Obs) : Fc (n + 1) "floor_of" [rt A U] o = .ok (.int (A / U)) o := by
  obtain ⟨a, b, g, r1, hb, hl, hg, e1, e2, _⟩ := rt_parts A h
  have k1 : divOk b = true := divOk_b (by omega) (by omega)
  have k2 : a.fdiv b = A / U := by
    rw [Int.fdiv_eq_ediv_of_nonneg _ (by omega), e1, e2, Int.mul_ediv_mul_of_pos_left _ _ hg]
  rw [r1, r_floor_of]
  simp [m_floor_of, k1, k2]
end
theorem times_ok {A U p q : Int} (h : 0 < U) (h2 : U < 1099511627776) (hq : 0 < q) (hq2 : q < 1099511627776) (hp : p.natAbs < 18446744073709551616) (n : Nat) (o : Obs) : Fc (n + 3) "times_of" [rt A U, .tup [.int p, .int q]] o = .ok (rt (A * p) (U * q)) o := by
  obtain ⟨a, b, g, r1, hb, hl, hg, e1, e2, _⟩ := rt_parts A h
  have k := prod_lt hb hq hl (Int.le_refl q) h2 hq2
  have m1 : ∀ x, mulOk x p = true := fun x => mulOk_r (by omega)
  have m2 : ∀ x, mulOk x q = true := fun x => mulOk_r (by omega)
  have e : rt (a * p) (b * q) = rt (A * p) (U * q) := rt_eq (Int.mul_pos hb hq) (Int.mul_pos h hq) (by rw [e1, e2]; ac_rfl)
  have := ratio_ok (p := a * p) n o (Int.mul_pos hb hq) k
  rw [r1, r_times_of]
  simp [m_times_of, m1, m2, this, e]
end Mp

set_option Elab.async false
set_option linter.all false
set_option maxRecDepth 100000
namespace Mp
open PySem PySem.Spec PyProof.Rows L2
/-! ### hearing, as a plain meaning -/
def bitAt (row : List Int) (k : Int) : Int := if 0 ≤ k ∧ k < row.length then row.getD k.toNat 1 else 1
def isEdge (row : List Int) (j : Nat) : Bool := decide (bitAt row j = 0) && (decide (j = 0) || decide (bitAt row ((j : Int) - 1) = 1))
def edgeF (row : List Int) (U last heard : Int) : Option Nat := (List.range row.length).find? fun j => isEdge row j && (decide (last < U * j) && decide (U * j ≤ heard))
def mv (M far : Int) : Int := if (if far < M then far else M) > 0 - M then (if far < M then far else M) else 0 - M
structure Hs where
  bg : Int
  last : Int
  fd : List Int
section
variable (row : List Int) (U L M S : Int)
def edS (s : Hs) : Option Nat := if s.fd.getLast? = some 1 then edgeF row U s.last (s.bg + L) else none
def bgS (s : Hs) : Int := match edS row U L s with
  | some j => s.bg + mv M (U * j - s.bg)
  | none => s.bg
def st1 (s : Hs) : Hs := ⟨bgS row U L M s + S, bgS row U L M s + L, s.fd ++ [bitAt row ((bgS row U L M s + L) / U)]⟩
def stN : Nat → Hs
  | 0 => ⟨0, 0, []⟩
  | k + 1 => st1 row U L M S (stN k)
end
theorem mv_abs {M far : Int} (h : 0 < M) : -M ≤ mv M far ∧ mv M far ≤ M := by
  unfold mv
  constructor <;> (split <;> (try split) <;> omega)
theorem bitAt_nat (row : List Int) (k : Nat) : bitAt row (k : Int) = row[k]?.getD 1 := by
  unfold bitAt
  by_cases h : k < row.length
  · rw [if_pos ⟨by omega, by omega⟩, List.getD_eq_getElem?_getD]; rfl
  · rw [if_neg (by omega), List.getElem?_eq_none (by omega)]; rfl
theorem bitAt_at {row : List Int} {k : Nat} {x : Int} (h : row[k]? = some x) : bitAt row (k : Int) = x := by rw [bitAt_nat, h]; rfl
theorem isEdge_iff (row : List Int) (j : Nat) : isEdge row j = true ↔ bitAt row j = 0 ∧ (j = 0 ∨ bitAt row ((j : Int) - 1) = 1) := by
  unfold isEdge
  rw [Bool.and_eq_true, Bool.or_eq_true, decide_eq_true_eq, decide_eq_true_eq, decide_eq_true_eq]
theorem edgeF_at {row : List Int} {U last heard : Int} {j : Nat} (hj : j < row.length) (he : isEdge row j = true) (h1 : last < U * j) (h2 : U * j ≤ heard) (h3 : ∀ i : Nat, i < j → last < U * i → isEdge row i = false) : edgeF row U last heard = some j := by
  unfold edgeF
  rw [List.find?_range_eq_some]
  refine ⟨by simp [he, h1, h2], by simpa using hj, fun i hi => ?_⟩
  by_cases c : last < U * i
  · simp [h3 i hi c]
  · simp [c]
theorem edgeF_no {row : List Int} {U last heard : Int} (h : ∀ i : Nat, i < row.length → last < U * i → U * i ≤ heard → isEdge row i = false) : edgeF row U last heard = none := by
  unfold edgeF
  rw [List.find?_range_eq_none]
  intro i hi
  by_cases c : last < U * i
  · by_cases c2 : U * i ≤ heard
    · simp [h i hi c c2]
    · simp [c2]
  · simp [c]
theorem mv_in {M far : Int} (h : -M ≤ far) (h2 : far ≤ M) : mv M far = far := by
  unfold mv
  by_cases c : far < M
  · rw [if_pos c]; split <;> omega
  · rw [if_neg c]; split <;> omega
theorem lt_place {U : Int} (hU : 0 < U) {a b : Int} (h : a * U < b * U) : a < b := Int.lt_of_mul_lt_mul_right h (by omega)
theorem place_eq {U y : Int} (hU : 0 < U) (k : Int) (h0 : 0 ≤ y) (h1 : y < U) : (k * U + y) / U = k := by
  rw [Int.add_comm, Int.add_mul_ediv_right _ _ (by omega), Int.ediv_eq_zero_of_lt h0 h1, Int.zero_add]
/-- no six bits alike -/
def Row6 (r : List Int) : Prop := ∀ k, k + 5 < r.length → ∃ t, t < 5 ∧ r[k + t]? ≠ r[k + t + 1]?
theorem last_take {r : List Int} {k : Nat} {x : Int} (h : r[k]? = some x) : (r.take (k + 1)).getLast? = some x := by
  have := (List.getElem?_eq_some_iff.mp h).1
  rw [List.getLast?_eq_getElem?, List.length_take, Nat.min_eq_left (by omega), List.getElem?_take, if_pos (by omega)]
  exact h
theorem take_snoc {r : List Int} {k : Nat} {x : Int} (h : r[k]? = some x) : r.take k ++ [x] = r.take (k + 1) := by
  rw [List.take_add_one, h]; rfl
/-- the bits ahead of place k: zeros from e on, z of them, then ones -/
structure Ahead (r : List Int) (k e z o : Nat) : Prop where
  sum : e + z + o = k
  z1 : 1 ≤ z
  z5 : z ≤ 5
  o5 : o ≤ 5
  zs : ∀ i, i < z → r[e + i]? = some 0
  os : ∀ i, i < o → r[e + z + i]? = some 1
section
variable {row : List Int} {U L M S : Int}
variable (hU : 0 < U) (h0 : row[0]? = some 0) (hb : ∀ x ∈ row, x = 0 ∨ x = 1) (h6 : Row6 row)
  (h9 : ∀ m : Int, 0 ≤ m → m ≤ 9 → 0 ≤ m * (S - U) + L ∧ m * (S - U) + L < U)
  (h10 : ∀ m : Int, 0 ≤ m → m ≤ 10 → -M ≤ m * (S - U) ∧ m * (S - U) ≤ M ∧ 0 ≤ m * (S - U) + L)
include hU h0 hb h6 h9 h10
theorem hear_step (k : Nat) (hk : k + 1 < row.length + 1) (h1 : 1 ≤ k) (s : Hs) (e z o : Nat) (ha : Ahead row k e z o) (hs : s.bg = k * U + (z + o : Nat) * (S - U)) (hf : s.fd = row.take k) (hl1 : (k - 1 : Int) * U ≤ s.last) (hl2 : s.last < k * U) :
    ∃ e z o, Ahead row (k + 1) e z o ∧ (st1 row U L M S s).bg = (k + 1 : Nat) * U + (z + o : Nat) * (S - U) ∧ (st1 row U L M S s).fd = row.take (k + 1) ∧ ((k + 1 : Nat) - 1 : Int) * U ≤ (st1 row U L M S s).last ∧ (st1 row U L M S s).last < (k + 1 : Nat) * U := by
  obtain ⟨bg, last, fd⟩ := s
  simp only at hs hf hl1 hl2
  subst hf
  obtain ⟨hsum, z1, z5, o5, zs, os⟩ := ha
  obtain ⟨x, hx⟩ : ∃ x, row[k]? = some x := ⟨_, List.getElem?_eq_getElem (by omega)⟩
  have hx01 := hb x (List.mem_of_getElem? hx)
  have hbk := bitAt_at hx
  -- the bit before
  obtain ⟨k', rfl⟩ : ∃ k', k = k' + 1 := ⟨k - 1, by omega⟩
  have z9 : ((k' + 1 : Nat) : Int) - 1 = (k' : Nat) := by omega
  have e1 : (((k' + 1 : Nat) + 1 : Nat) : Int) * U = ((k' + 1 : Nat) : Int) * U + U := by rw [Int.natCast_add, Int.add_mul]; simp
  have prev : row[k']? = some (if o = 0 then 0 else 1) := by
    by_cases c : o = 0
    · rw [if_pos c]
      have := zs (z - 1) (by omega)
      rwa [show e + (z - 1) = k' from by omega] at this
    · rw [if_neg c]
      have := os (o - 1) (by omega)
      rwa [show e + z + (o - 1) = k' from by omega] at this
  have hlast := last_take prev
  have hbp : bitAt row (((k' + 1 : Nat) : Int) - 1) = (if o = 0 then 0 else 1) := by rw [z9]; exact bitAt_at prev
  have later : ∀ i : Nat, last < U * i → k' + 1 ≤ i := fun i hi => by
    have : ((k' : Nat) : Int) < i := by
      apply lt_place hU
      rw [z9] at hl1
      rw [Int.mul_comm (i : Int)]
      omega
    omega
  by_cases edge : x = 0 ∧ o ≠ 0
  · obtain ⟨rfl, ho⟩ := edge
    obtain ⟨a1, a2, a3⟩ := h10 (z + o : Nat) (by omega) (by omega)
    obtain ⟨b1, b2⟩ := h9 0 (by omega) (by omega)
    rw [Int.zero_mul, Int.zero_add] at b1 b2
    have he : isEdge row (k' + 1) = true := (isEdge_iff _ _).mpr ⟨hbk, .inr (by rw [hbp, if_neg ho])⟩
    have hed : edgeF row U last (bg + L) = some (k' + 1) := by
      refine edgeF_at (by omega) he (by rw [Int.mul_comm]; exact hl2) (by rw [Int.mul_comm, hs]; omega) fun i hi hi2 => ?_
      have := later i hi2
      omega
    have hbg : bgS row U L M ⟨bg, last, row.take (k' + 1)⟩ = (k' + 1 : Nat) * U := by
      unfold bgS edS
      simp only [hlast, if_neg ho, if_true, hed]
      rw [mv_in (by rw [hs, Int.mul_comm U]; omega) (by rw [hs, Int.mul_comm U]; omega), Int.mul_comm U]
      omega
    refine ⟨k' + 1, 1, 0, ⟨by omega, by omega, by omega, by omega, fun i hi => ?_, fun i hi => by omega⟩, ?_⟩
    · have : i = 0 := by omega
      subst this; exact hx
    · unfold st1
      rw [hbg]
      simp only [place_eq hU _ b1 b2, hbk, take_snoc hx, e1, z9]
      have e2 : ((k' + 1 : Nat) : Int) * U = (k' : Nat) * U + U := by rw [Int.natCast_add, Int.add_mul]; simp
      rw [show (((k' + 1 + 1 : Nat) : Int) - 1) = (k' + 1 : Nat) from by omega]
      refine ⟨?_, trivial, ?_, ?_⟩
      · simp; omega
      · omega
      · omega
  · -- no edge
    have ne : isEdge row (k' + 1) = false := by
      rw [← Bool.not_eq_true, isEdge_iff, hbk, hbp]
      rintro ⟨rfl, h | h⟩
      · omega
      · by_cases c : o = 0
        · rw [if_pos c] at h; omega
        · exact edge ⟨rfl, c⟩
    have m9 : z + o ≤ 9 := by
      by_cases c : o = 5
      · -- one more one would be six
        have hx1 : x = 1 := by rcases hx01 with h | h; exact absurd ⟨h, by omega⟩ edge; exact h
        subst hx1
        obtain ⟨t, ht, hn⟩ := h6 (e + z) (by omega)
        exfalso
        apply hn
        rw [os t (by omega)]
        by_cases c2 : t = 4
        · subst c2
          rw [show e + z + 4 + 1 = k' + 1 from by omega, hx]
        · rw [show e + z + t + 1 = e + z + (t + 1) from by omega, os (t + 1) (by omega)]
      · omega
    obtain ⟨b1, b2⟩ := h9 (z + o : Nat) (by omega) (by omega)
    have hbg : bgS row U L M ⟨bg, last, row.take (k' + 1)⟩ = bg := by
      unfold bgS edS
      by_cases c : o = 0
      · simp [hlast, c]
      · simp only [hlast, if_neg c, if_true]
        rw [edgeF_no]
        intro i hi hi2 hi3
        have l1 := later i hi2
        by_cases c2 : i = k' + 1
        · subst c2; exact ne
        · exfalso
          have : (i : Int) < ((k' + 1 : Nat) + 1 : Nat) := by
            apply lt_place hU
            rw [e1, Int.mul_comm]
            omega
          omega
    refine ⟨e, if x = 0 then z + 1 else z, if x = 0 then o else o + 1, ?_, ?_⟩
    · rcases hx01 with rfl | rfl
      · have o0 : o = 0 := Decidable.byContradiction fun c => edge ⟨rfl, c⟩
        subst o0
        rw [if_pos rfl, if_pos rfl]
        have z4 : z ≤ 4 := by
          by_cases c : z = 5
          · obtain ⟨t, ht, hn⟩ := h6 e (by omega)
            exfalso
            apply hn
            rw [zs t (by omega)]
            by_cases c2 : t = 4
            · subst c2
              rw [show e + 4 + 1 = k' + 1 from by omega, hx]
            · rw [show e + t + 1 = e + (t + 1) from by omega, zs (t + 1) (by omega)]
          · omega
        refine ⟨by omega, by omega, by omega, by omega, fun i hi => ?_, fun i hi => by omega⟩
        by_cases c : i < z
        · exact zs i c
        · rw [show e + i = k' + 1 from by omega]; exact hx
      · rw [if_neg (by omega), if_neg (by omega)]
        have o4 : o ≤ 4 := by
          by_cases c : o = 5
          · obtain ⟨t, ht, hn⟩ := h6 (e + z) (by omega)
            exfalso
            apply hn
            rw [os t (by omega)]
            by_cases c2 : t = 4
            · subst c2
              rw [show e + z + 4 + 1 = k' + 1 from by omega, hx]
            · rw [show e + z + t + 1 = e + z + (t + 1) from by omega, os (t + 1) (by omega)]
          · omega
        refine ⟨by omega, by omega, by omega, by omega, zs, fun i hi => ?_⟩
        by_cases c : i < o
        · exact os i c
        · rw [show e + z + i = k' + 1 from by omega]; exact hx
    · unfold st1
      rw [hbg]
      have zz : ((if x = 0 then z + 1 else z) + (if x = 0 then o else o + 1) : Nat) = z + o + 1 := by split <;> omega
      have hbl : bg + L = (k' + 1 : Nat) * U + ((z + o : Nat) * (S - U) + L) := by rw [hs]; omega
      rw [show (((k' + 1 + 1 : Nat) : Int) - 1) = (k' + 1 : Nat) from by omega]
      simp only [hbl, place_eq hU _ b1 b2, hbk, take_snoc hx, e1, zz]
      refine ⟨?_, trivial, by omega, by omega⟩
      rw [hs, show ((z + o + 1 : Nat) : Int) = (z + o : Nat) + 1 from by omega, Int.add_mul]
      omega
theorem hear_all (hl : ∀ x ∈ row, x = 0 ∨ x = 1) : ∀ k : Nat, k ≤ row.length → (stN row U L M S k).fd = row.take k ∧ (1 ≤ k → ∃ e z o, Ahead row k e z o ∧ (stN row U L M S k).bg = k * U + (z + o : Nat) * (S - U) ∧ (k - 1 : Int) * U ≤ (stN row U L M S k).last ∧ (stN row U L M S k).last < k * U)
  | 0, _ => ⟨by simp [stN], fun h => by omega⟩
  | 1, hk => by
    obtain ⟨b1, b2⟩ := h9 0 (by omega) (by omega)
    rw [Int.zero_mul, Int.zero_add] at b1 b2
    have hz : L / U = ((0 : Nat) : Int) := Int.ediv_eq_zero_of_lt b1 b2
    have hbz := bitAt_at h0
    have hfd : (stN row U L M S 1).fd = row.take 1 := by
      have := take_snoc h0
      simp only [stN, st1, bgS, edS, List.getLast?_nil, List.nil_append]
      rw [← this]
      simpa [hz] using hbz
    refine ⟨hfd, fun _ => ⟨0, 1, 0, ⟨rfl, by omega, by omega, by omega, fun i hi => ?_, fun i hi => by omega⟩, ?_, ?_, ?_⟩⟩
    · have : i = 0 := by omega
      subst this; exact h0
    · simp [stN, st1, bgS, edS]; omega
    · simp [stN, st1, bgS, edS]; exact b1
    · simp [stN, st1, bgS, edS]; exact b2
  | k + 2, hk => by
    obtain ⟨f, g⟩ := hear_all hl (k + 1) (by omega)
    obtain ⟨e, z, o, ha, hbg, hl1, hl2⟩ := g (by omega)
    obtain ⟨e', z', o', ha', hbg', hf', hl1', hl2'⟩ := hear_step hU h0 hb h6 h9 h10 (k + 1) (by omega) (by omega) (stN row U L M S (k + 1)) e z o ha hbg f hl1 hl2
    exact ⟨hf', fun _ => ⟨e', z', o', ha', hbg', hl1', hl2'⟩⟩
theorem hear_right : (stN row U L M S row.length).fd = row := by
  rw [(hear_all hU h0 hb h6 h9 h10 hb row.length (Nat.le_refl _)).1, List.take_length]
end
/-! ### five zeros, five ones, over and over: where the first bit is heard wrong -/
def pb (k : Nat) : Int := if k % 10 < 5 then 0 else 1
def pat (l : Nat) : List Int := (List.range l).map pb
theorem pat_len (l : Nat) : (pat l).length = l := by unfold pat; simp
theorem pat_get (l k : Nat) : (pat l)[k]? = if k < l then some (pb k) else none := by
  unfold pat
  by_cases h : k < l
  · simp [h]
  · simp [h]
theorem pat_bit (l k : Nat) : bitAt (pat l) (k : Int) = if k < l then pb k else 1 := by
  rw [bitAt_nat, pat_get]
  split <;> rfl
theorem pat_edge (l j : Nat) : isEdge (pat l) j = decide (j < l ∧ j % 10 = 0) := by
  have key : isEdge (pat l) j = true ↔ (j < l ∧ j % 10 = 0) := by
    rw [isEdge_iff, pat_bit]
    cases j with
    | zero =>
      by_cases h : 0 < l
      · simp [h, pb]
      · simp [h]
    | succ j =>
      rw [show (((j + 1 : Nat) : Int) - 1) = (j : Nat) from by omega, pat_bit]
      unfold pb
      by_cases h : j + 1 < l
      · rw [if_pos h, if_pos (show j < l by omega)]
        constructor
        · rintro ⟨a, b⟩
          refine ⟨h, ?_⟩
          split at a
          · rcases b with b | b
            · omega
            · split at b <;> omega
          · omega
        · rintro ⟨_, b⟩
          rw [if_pos (by omega)]
          refine ⟨rfl, .inr ?_⟩
          rw [if_neg (by omega)]
      · rw [if_neg h]; constructor
        · rintro ⟨a, _⟩; omega
        · rintro ⟨a, _⟩; exact absurd a h
  by_cases c : j < l ∧ j % 10 = 0
  · rw [key.mpr c, decide_eq_true c]
  · rw [decide_eq_false c, ← Bool.not_eq_true]; exact fun h => c (key.mp h)
section
variable {row : List Int} {U L M S : Int}
theorem st1_eq {s : Hs} {b : Int} (h : bgS row U L M s = b) : st1 row U L M S s = ⟨b + S, b + L, s.fd ++ [bitAt row ((b + L) / U)]⟩ := by unfold st1; rw [h]
theorem bgS_zero {s : Hs} (h : s.fd.getLast? = some 0) : bgS row U L M s = s.bg := by unfold bgS edS; simp [h]
theorem bgS_none {s : Hs} (h : edgeF row U s.last (s.bg + L) = none) : bgS row U L M s = s.bg := by unfold bgS edS; simp [h]
theorem bgS_some {s : Hs} {j : Nat} (h : s.fd.getLast? = some 1) (h2 : edgeF row U s.last (s.bg + L) = some j) : bgS row U L M s = s.bg + mv M (U * j - s.bg) := by unfold bgS edS; simp [h, h2]
theorem fd_keep (i : Nat) : ∀ k k' : Nat, i < k → k ≤ k' → (stN row U L M S k).fd.length = k → (stN row U L M S k').fd[i]? = (stN row U L M S k).fd[i]? := by
  intro k k' hi hk hl
  obtain ⟨m, rfl⟩ : ∃ m, k' = k + m := ⟨k' - k, by omega⟩
  have : ∀ m : Nat, ∃ t, (stN row U L M S (k + m)).fd = (stN row U L M S k).fd ++ t := fun m => by
    induction m with
    | zero => exact ⟨[], by simp⟩
    | succ m ih =>
      obtain ⟨t, ht⟩ := ih
      refine ⟨t ++ [bitAt row ((bgS row U L M (stN row U L M S (k + m)) + L) / U)], ?_⟩
      show (st1 row U L M S (stN row U L M S (k + m))).fd = _
      unfold st1
      simp only [ht, List.append_assoc]
  obtain ⟨t, ht⟩ := this m
  rw [ht, List.getElem?_append_left (by omega)]
theorem fd_len : ∀ k : Nat, (stN row U L M S k).fd.length = k
  | 0 => rfl
  | k + 1 => by simp [stN, st1, fd_len k]
end
theorem pat_take {l k : Nat} (h : k < l) : (pat l).take k ++ [pb k] = (pat l).take (k + 1) := take_snoc (by rw [pat_get, if_pos h])
theorem pat_last {l k : Nat} (h : k < l) : ((pat l).take (k + 1)).getLast? = some (pb k) := last_take (by rw [pat_get, if_pos h])
theorem place2 {U y : Int} (hU : 0 < U) (k : Nat) (h0 : 0 ≤ y) (h1 : y < U) : ((k : Int) * U + y) / U = (k : Nat) := place_eq hU _ h0 h1
theorem place2s {U y : Int} (hU : 0 < U) (k : Nat) (h0 : U ≤ y) (h1 : y < 2 * U) : ((k : Int) * U + y) / U = ((k + 1 : Nat) : Int) := by
  rw [← place_eq hU ((k + 1 : Nat) : Int) (y := y - U) (by omega) (by omega)]
  congr 1
  rw [Int.natCast_add, Int.add_mul]; simp; omega
theorem place2p {U y : Int} (hU : 0 < U) (k : Nat) (h0 : y < 0) (h1 : -U ≤ y) : (((k + 1 : Nat) : Int) * U + y) / U = (k : Nat) := by
  rw [← place_eq hU ((k : Nat) : Int) (y := y + U) (by omega) (by omega)]
  congr 1
  rw [Int.natCast_add, Int.add_mul]; simp; omega
theorem mulb {i j : Nat} {d : Int} (hd : 0 ≤ d) (h : i ≤ j) : (i : Int) * d ≤ (j : Int) * d := Int.mul_le_mul_of_nonneg_right (by omega) hd
theorem edge10 {l : Nat} {U last heard : Int} (hU : 0 < U) (n : Nat) (h1 : ((10 * n : Nat) : Int) * U ≤ last) (h2 : heard < ((10 * n + 10 : Nat) : Int) * U ∨ l ≤ 10 * n + 10) (h3 : heard < ((10 * n + 20 : Nat) : Int) * U) : edgeF (pat l) U last heard = none := by
  refine edgeF_no fun i hi hi2 hi3 => ?_
  rw [pat_len] at hi
  rw [pat_edge, decide_eq_false_iff_not]
  rintro ⟨_, c⟩
  have a1 : ((10 * n : Nat) : Int) < i := lt_place hU (by rw [Int.mul_comm (i : Int)]; omega)
  have a3 : (i : Int) < (10 * n + 20 : Nat) := lt_place hU (by rw [Int.mul_comm (i : Int)]; omega)
  rcases h2 with h2 | h2
  · have a2 : (i : Int) < (10 * n + 10 : Nat) := lt_place hU (by rw [Int.mul_comm (i : Int)]; omega)
    omega
  · omega
theorem edge10s {l : Nat} {U last heard : Int} (hU : 0 < U) (n : Nat) (hl : 10 * n + 10 < l) (h1 : ((10 * n : Nat) : Int) * U ≤ last) (h2 : last < ((10 * n + 10 : Nat) : Int) * U) (h3 : ((10 * n + 10 : Nat) : Int) * U ≤ heard) : edgeF (pat l) U last heard = some (10 * n + 10) := by
  refine edgeF_at (by rw [pat_len]; exact hl) (by rw [pat_edge]; exact decide_eq_true ⟨hl, by omega⟩) (by rw [Int.mul_comm]; exact h2) (by rw [Int.mul_comm]; exact h3) fun i hi hi2 => ?_
  rw [pat_edge, decide_eq_false_iff_not]
  rintro ⟨_, c⟩
  have a1 : ((10 * n : Nat) : Int) < i := lt_place hU (by rw [Int.mul_comm (i : Int)]; omega)
  omega
/-- the error kept at the start of each ten -/
def Ep (d M : Int) : Nat → Int
  | 0 => 0
  | n + 1 => if 0 < Ep d M n + 10 * d - M then Ep d M n + 10 * d - M else 0
theorem Ep_nn (d M : Int) : ∀ n, 0 ≤ Ep d M n
  | 0 => Int.le_refl 0
  | n + 1 => by simp only [Ep]; split <;> omega
theorem Ep_ge (d M : Int) : ∀ n : Nat, (n : Int) * (10 * d - M) ≤ Ep d M n
  | 0 => by simp [Ep]
  | n + 1 => by
    have := Ep_ge d M n
    simp only [Ep]
    rw [Int.natCast_add, Int.add_mul]
    split <;> simp <;> omega
/-- the clock is late: its bits are longer by d -/
structure InvP (l : Nat) (U L M d : Int) (k n i : Nat) (s : Hs) : Prop where
  kk : k = 10 * n + i + 1
  i9 : i ≤ 9
  e1 : 10 * (Ep d M n + L) ≤ 11 * U
  e4 : 4 ≤ i → Ep d M n + 4 * d + L < U
  e9 : i = 9 → Ep d M n + 9 * d + L < U
  fd : s.fd = (pat l).take k
  bg : s.bg = k * U + Ep d M n + (i + 1 : Nat) * d
  last : s.last = (10 * n + i : Nat) * U + Ep d M n + i * d + L
def badP (U L M d : Int) (k : Nat) : Prop := (k % 10 = 4 ∨ k % 10 = 9) ∧ U ≤ Ep d M (k / 10) + (k % 10 : Nat) * d + L
section
variable {U L M d : Int} (hU : 0 < U) (hL : 0 < L) (hM : 0 ≤ M) (hd : 0 < d) (hd2 : 10 * d ≤ U) (hL2 : 10 * L ≤ 11 * U)
include hU hL hM hd hd2 hL2
theorem stepP {l k n i : Nat} {s : Hs} (hk : k < l) (hl : k + 1 < l ∨ l % 10 = 0) (v : InvP l U L M d k n i s) :
    (¬ badP U L M d k → ∃ n i, InvP l U L M d (k + 1) n i (st1 (pat l) U L M (U + d) s)) ∧
    (badP U L M d k → k + 1 < l → ∃ x, (st1 (pat l) U L M (U + d) s).fd = (pat l).take k ++ [x] ∧ x ≠ pb k) ∧
    (badP U L M d k → k + 1 = l → (st1 (pat l) U L M (U + d) s).fd = (pat l).take (k + 1)) := by
  obtain ⟨kk, i9, e1, e4, e9, fd, bg, last⟩ := v
  have e0 := Ep_nn d M n
  obtain ⟨bg', last', fd'⟩ := s
  simp only at fd bg last
  subst fd
  have hlast : ((pat l).take k).getLast? = some (pb (k - 1)) := by
    have := pat_last (l := l) (k := k - 1) (by omega)
    rwa [show k - 1 + 1 = k from by omega] at this
  by_cases c9 : i = 9
  · -- an edge
    subst c9
    have e9 := e9 rfl
    have kb : k = 10 * n + 10 := by omega
    have pk : pb k = 0 := by unfold pb; rw [if_pos (by omega)]
    have pk1 : pb (k + 1) = 0 := by unfold pb; rw [if_pos (by omega)]
    have pk0 : pb (k - 1) = 1 := by unfold pb; rw [if_neg (by omega)]
    rw [pk0] at hlast
    have nb : ¬ badP U L M d k := by rintro ⟨h | h, _⟩ <;> omega
    have u1 : ((10 * n + 9 : Nat) : Int) * U = (10 * n : Nat) * U + 9 * U := by rw [Int.natCast_add, Int.add_mul]; rfl
    have u2 : ((10 * n + 10 : Nat) : Int) * U = (10 * n : Nat) * U + 10 * U := by rw [Int.natCast_add, Int.add_mul]; rfl
    have ed : edgeF (pat l) U last' (bg' + L) = some (10 * n + 10) := by
      refine edge10s hU n (by omega) ?_ ?_ ?_
      · rw [last, u1]; omega
      · rw [last, u1, u2]; omega
      · rw [bg, kb]; omega
    have hb : bgS (pat l) U L M ⟨bg', last', (pat l).take k⟩ = k * U + Ep d M (n + 1) := by
      rw [bgS_some hlast ed]
      simp only
      have hf : U * ((10 * n + 10 : Nat) : Int) - bg' = -(Ep d M n + 10 * d) := by rw [bg, Int.mul_comm U, kb]; omega
      rw [hf, bg]
      simp only [Ep, mv]
      rw [if_pos (show -(Ep d M n + 10 * d) < M by omega)]
      split <;> split <;> omega
    have y0 : 0 ≤ Ep d M (n + 1) := Ep_nn d M (n + 1)
    have y1 : 10 * (Ep d M (n + 1) + L) ≤ 11 * U := by
      simp only [Ep]
      split <;> omega
    refine ⟨fun _ => ⟨n + 1, 0, by omega, by omega, y1, by omega, by omega, ?_, ?_, ?_⟩, fun h => absurd h nb, fun h => absurd h nb⟩
    · rw [st1_eq hb]
      simp only
      rw [← pat_take hk, pk]
      congr 2
      rw [show (k : Int) * U + Ep d M (n + 1) + L = k * U + (Ep d M (n + 1) + L) from by omega]
      by_cases c : Ep d M (n + 1) + L < U
      · rw [place2 hU k (by omega) c, pat_bit, if_pos hk, pk]
      · rw [place2s hU k (by omega) (by omega), pat_bit, if_pos (by omega), pk1]
    · rw [st1_eq hb]
      simp only
      rw [Int.natCast_add, Int.add_mul]
      simp; omega
    · rw [st1_eq hb]
      simp only
      rw [show 10 * (n + 1) + 0 = k from by omega]
      simp
  · have i8 : i ≤ 8 := by omega
    have m10 : k % 10 = i + 1 := by omega
    have k10 : k / 10 = n := by omega
    have bd : badP U L M d k ↔ (i + 1 = 4 ∨ i + 1 = 9) ∧ U ≤ Ep d M n + (i + 1 : Nat) * d + L := by unfold badP; rw [m10, k10]
    obtain ⟨y, hy⟩ : ∃ y, y = Ep d M n + (i + 1 : Nat) * d + L := ⟨_, rfl⟩
    rw [← hy] at bd
    have t0 := mulb (i := 0) (j := i + 1) (d := d) (by omega) (by omega)
    have t9 := mulb (i := i + 1) (j := 9) (d := d) (by omega) (by omega)
    rw [show ((0 : Nat) : Int) = 0 from rfl, Int.zero_mul] at t0
    have t9' : ((i + 1 : Nat) : Int) * d ≤ 9 * d := t9
    have ti : ((i + 1 : Nat) : Int) * d = i * d + d := by rw [Int.natCast_add, Int.add_mul]; simp
    have ti0 : 0 ≤ (i : Int) * d := Int.mul_nonneg (by omega) (by omega)
    have hby : bg' + L = k * U + y := by rw [bg, hy]; omega
    have u0 : ((k + 1 : Nat) : Int) * U = k * U + U := by rw [Int.natCast_add, Int.add_mul]; simp
    have ul : ((10 * n + i : Nat) : Int) * U + U = k * U := by
      rw [show k = (10 * n + i) + 1 from kk, Int.natCast_add (10 * n + i), Int.add_mul]; simp
    -- without a move
    have go : bgS (pat l) U L M ⟨bg', last', (pat l).take k⟩ = bg' → bitAt (pat l) ((k * U + y) / U) = pb k → (4 ≤ i + 1 → Ep d M n + 4 * d + L < U) → (i + 1 = 9 → Ep d M n + 9 * d + L < U) → ∃ n i, InvP l U L M d (k + 1) n i (st1 (pat l) U L M (U + d) ⟨bg', last', (pat l).take k⟩) := fun hb hbit f4 f9 => by
      refine ⟨n, i + 1, by omega, by omega, e1, f4, f9, ?_, ?_, ?_⟩
      · rw [st1_eq hb, hby, hbit]; exact pat_take hk
      · rw [st1_eq hb]
        simp only
        rw [u0, bg, show ((i + 1 + 1 : Nat) : Int) * d = (i + 1 : Nat) * d + d from by rw [Int.natCast_add (i + 1), Int.add_mul]; simp]
        omega
      · rw [st1_eq hb]
        simp only
        rw [hby, hy, show 10 * n + (i + 1) = k from by omega]
        omega
    by_cases c4 : i ≤ 4
    · have pk0 : pb (k - 1) = 0 := by unfold pb; rw [if_pos (by omega)]
      rw [pk0] at hlast
      have hb : bgS (pat l) U L M ⟨bg', last', (pat l).take k⟩ = bg' := bgS_zero hlast
      have t5 := mulb (i := i + 1) (j := 5) (d := d) (by omega) (by omega)
      have t5' : ((i + 1 : Nat) : Int) * d ≤ 5 * d := t5
      have y0 : 0 ≤ y := by omega
      have y2 : y < 2 * U := by omega
      by_cases c3 : i ≤ 2
      · have nb : ¬ badP U L M d k := by rw [bd]; rintro ⟨h | h, _⟩ <;> omega
        refine ⟨fun _ => go hb ?_ (by omega) (by omega), fun h => absurd h nb, fun h => absurd h nb⟩
        have pk : pb k = 0 := by unfold pb; rw [if_pos (by omega)]
        have pk1 : pb (k + 1) = 0 := by unfold pb; rw [if_pos (by omega)]
        by_cases c : y < U
        · rw [place2 hU k y0 c, pat_bit, if_pos hk]
        · rw [place2s hU k (by omega) y2, pat_bit, if_pos (by omega), pk1, pk]
      · by_cases c2 : i = 3
        · subst c2
          have hy4 : y = Ep d M n + 4 * d + L := hy
          have pk : pb k = 0 := by unfold pb; rw [if_pos (by omega)]
          have pk1 : pb (k + 1) = 1 := by unfold pb; rw [if_neg (by omega)]
          refine ⟨fun nb => ?_, fun h _ => ?_, fun _ h => ?_⟩
          · rw [bd] at nb
            have c : y < U := by omega
            exact go hb (by rw [place2 hU k y0 c, pat_bit, if_pos hk]) (by omega) (by omega)
          · rw [bd] at h
            refine ⟨_, by rw [st1_eq hb], ?_⟩
            rw [hby, place2s hU k h.2 y2, pat_bit, pk, pk1]
            split <;> decide
          · omega
        · have i4 : i = 4 := by omega
          subst i4
          have e4 := e4 (by omega)
          have nb : ¬ badP U L M d k := by rw [bd]; rintro ⟨h | h, _⟩ <;> omega
          refine ⟨fun _ => go hb ?_ (fun _ => e4) (by omega), fun h => absurd h nb, fun h => absurd h nb⟩
          have pk : pb k = 1 := by unfold pb; rw [if_neg (by omega)]
          have pk1 : pb (k + 1) = 1 := by unfold pb; rw [if_neg (by omega)]
          by_cases c : y < U
          · rw [place2 hU k y0 c, pat_bit, if_pos hk]
          · rw [place2s hU k (by omega) y2, pat_bit, pk1, pk]
            split <;> rfl
    · have f4 := e4 (by omega)
      have pk0 : pb (k - 1) = 1 := by unfold pb; rw [if_neg (by omega)]
      rw [pk0] at hlast
      have pk : pb k = 1 := by unfold pb; rw [if_neg (by omega)]
      have y0 : 0 ≤ y := by omega
      have y2 : y < 2 * U := by omega
      have v0 : ((10 * n + i : Nat) : Int) * U = (10 * n : Nat) * U + i * U := by rw [Int.natCast_add, Int.add_mul]
      have vi := mulb (i := 5) (j := i) (d := U) (by omega) (by omega)
      have vi' : 5 * U ≤ (i : Int) * U := vi
      have v10 : ((10 * n + 10 : Nat) : Int) * U = (10 * n : Nat) * U + 10 * U := by rw [Int.natCast_add, Int.add_mul]; rfl
      have v20 : ((10 * n + 20 : Nat) : Int) * U = (10 * n : Nat) * U + 20 * U := by rw [Int.natCast_add, Int.add_mul]; rfl
      have vi8 := mulb (i := i) (j := 8) (d := U) (by omega) (by omega)
      have vi8' : (i : Int) * U ≤ 8 * U := vi8
      have la : ((10 * n : Nat) : Int) * U ≤ last' := by rw [last]; omega
      by_cases c8 : i ≤ 7
      · have nb : ¬ badP U L M d k := by rw [bd]; rintro ⟨h | h, _⟩ <;> omega
        have vi7 := mulb (i := i) (j := 7) (d := U) (by omega) (by omega)
        have vi7' : (i : Int) * U ≤ 7 * U := vi7
        refine ⟨fun _ => go (bgS_none (edge10 hU n la (.inl (by rw [hby]; omega)) (by rw [hby]; omega))) ?_ (fun _ => f4) (by omega), fun h => absurd h nb, fun h => absurd h nb⟩
        have pk1 : pb (k + 1) = 1 := by unfold pb; rw [if_neg (by omega)]
        by_cases c : y < U
        · rw [place2 hU k y0 c, pat_bit, if_pos hk]
        · rw [place2s hU k (by omega) y2, pat_bit, pk1, pk]
          split <;> rfl
      · have i8 : i = 8 := by omega
        subst i8
        have hy9 : y = Ep d M n + 9 * d + L := hy
        have w8 : ((8 : Nat) : Int) * U = 8 * U := rfl
        have w8d : ((8 : Nat) : Int) * d = 8 * d := rfl
        refine ⟨fun nb => ?_, fun h hl => ?_, fun h hl => ?_⟩
        · rw [bd] at nb
          have c : y < U := by omega
          exact go (bgS_none (edge10 hU n la (.inl (by rw [hby]; omega)) (by rw [hby]; omega))) (by rw [place2 hU k y0 c, pat_bit, if_pos hk]) (fun _ => f4) (by omega)
        · rw [bd] at h
          have ed : edgeF (pat l) U last' (bg' + L) = some (10 * n + 10) := edge10s hU n (by omega) la (by rw [last]; omega) (by rw [hby]; omega)
          have hb := bgS_some (M := M) (s := ⟨bg', last', (pat l).take k⟩) hlast ed
          simp only at hb
          have pk1 : pb (k + 1) = 0 := by unfold pb; rw [if_pos (by omega)]
          obtain ⟨z, hz⟩ : ∃ z, z = bg' + mv M (U * ((10 * n + 10 : Nat) : Int) - bg') + L := ⟨_, rfl⟩
          refine ⟨_, by rw [st1_eq hb], ?_⟩
          rw [← hz]
          have hfar : U * ((10 * n + 10 : Nat) : Int) - bg' = U - (y - L) := by rw [Int.mul_comm U, v10, show bg' = k * U + y - L from by omega]; omega
          rw [hfar] at hz
          have z1 : U ≤ z - k * U ∧ z - k * U < 2 * U := by
            rw [hz]
            have hbg : bg' = k * U + y - L := by omega
            rw [hbg]
            unfold mv
            split <;> split <;> omega
          rw [show z = k * U + (z - k * U) from by omega, place2s hU k z1.1 z1.2, pat_bit, if_pos hl, pk1, pk]
          decide
        · rw [bd] at h
          have hb : bgS (pat l) U L M ⟨bg', last', (pat l).take k⟩ = bg' := bgS_none (edge10 hU n la (.inr (by omega)) (by rw [hby]; omega))
          rw [st1_eq hb, hby]
          simp only
          rw [← pat_take hk, place2s hU k h.2 y2, pat_bit, if_neg (by omega), pk]
end
theorem Ep_succ {d M : Int} (h : M < 10 * d) (n : Nat) : Ep d M (n + 1) = Ep d M n + 10 * d - M := by
  have := Ep_nn d M n
  simp only [Ep]
  rw [if_pos (by omega)]
/-- the clock is early: its bits are shorter by d -/
structure InvN (l : Nat) (U L M d : Int) (k n i : Nat) (s : Hs) : Prop where
  kk : k = 10 * n + i + 1
  i9 : i ≤ 9
  e1 : Ep d M n < L
  e5 : 5 ≤ i → Ep d M n + 5 * d ≤ L
  fd : s.fd = (pat l).take k
  bg : s.bg = k * U - Ep d M n - (i + 1 : Nat) * d
  last : s.last = (10 * n + i : Nat) * U - Ep d M n - i * d + L
def badN (L M d : Int) (k : Nat) : Prop := (k % 10 = 5 ∧ L < Ep d M (k / 10) + 5 * d) ∨ (k % 10 = 0 ∧ 10 ≤ k ∧ L < Ep d M (k / 10 - 1) + 10 * d)
section
variable {U L M d : Int} (hU : 0 < U) (hL : 0 < L) (hM : 0 < M) (hML : M < L) (hLU : L < U) (hd : M < 10 * d) (hd2 : 10 * d ≤ U)
include hU hL hM hML hLU hd hd2
theorem stepN {l k n i : Nat} {s : Hs} (hk : k < l) (v : InvN l U L M d k n i s) :
    (¬ badN L M d k → ∃ n i, InvN l U L M d (k + 1) n i (st1 (pat l) U L M (U - d) s)) ∧
    (badN L M d k → ∃ x, (st1 (pat l) U L M (U - d) s).fd = (pat l).take k ++ [x] ∧ x ≠ pb k) := by
  obtain ⟨kk, i9, e1, e5, fd, bg, last⟩ := v
  have e0 := Ep_nn d M n
  obtain ⟨bg', last', fd'⟩ := s
  simp only at fd bg last
  subst fd
  have hlast : ((pat l).take k).getLast? = some (pb (k - 1)) := by
    have := pat_last (l := l) (k := k - 1) (by omega)
    rwa [show k - 1 + 1 = k from by omega] at this
  by_cases c9 : i = 9
  · subst c9
    have f5 := e5 (by omega)
    have kb : k = 10 * n + 10 := by omega
    have pk : pb k = 0 := by unfold pb; rw [if_pos (by omega)]
    have pk0 : pb (k - 1) = 1 := by unfold pb; rw [if_neg (by omega)]
    rw [pk0] at hlast
    have bd : badN L M d k ↔ L < Ep d M n + 10 * d := by
      unfold badN
      rw [show k % 10 = 0 from by omega, show k / 10 - 1 = n from by omega]
      constructor
      · rintro (⟨h, _⟩ | ⟨_, _, h⟩)
        · omega
        · exact h
      · exact fun h => .inr ⟨rfl, by omega, h⟩
    have u1 : ((10 * n + 9 : Nat) : Int) * U = (10 * n : Nat) * U + 9 * U := by rw [Int.natCast_add, Int.add_mul]; rfl
    have u2 : ((10 * n + 10 : Nat) : Int) * U = (10 * n : Nat) * U + 10 * U := by rw [Int.natCast_add, Int.add_mul]; rfl
    have v20 : ((10 * n + 20 : Nat) : Int) * U = (10 * n : Nat) * U + 20 * U := by rw [Int.natCast_add, Int.add_mul]; rfl
    have w9 : ((9 : Nat) : Int) * d = 9 * d := rfl
    have w10 : ((9 + 1 : Nat) : Int) * d = 10 * d := rfl
    have ku : (k : Int) * U = (10 * n : Nat) * U + 10 * U := by rw [kb]; exact u2
    have la : ((10 * n : Nat) : Int) * U ≤ last' := by rw [last]; omega
    refine ⟨fun nb => ?_, fun h => ?_⟩
    · rw [bd] at nb
      have ed : edgeF (pat l) U last' (bg' + L) = some (10 * n + 10) := edge10s hU n (by omega) la (by rw [last]; omega) (by rw [bg]; omega)
      have es := Ep_succ hd n
      have hb : bgS (pat l) U L M ⟨bg', last', (pat l).take k⟩ = k * U - Ep d M (n + 1) := by
        rw [bgS_some hlast ed]
        simp only
        have hf : U * ((10 * n + 10 : Nat) : Int) - bg' = Ep d M n + 10 * d := by rw [bg, Int.mul_comm U]; omega
        rw [hf, bg]
        unfold mv
        rw [if_neg (show ¬ Ep d M n + 10 * d < M by omega), if_pos (by omega)]
        omega
      have y0 : 0 ≤ Ep d M (n + 1) := Ep_nn d M (n + 1)
      have y1 : Ep d M (n + 1) < L := by omega
      refine ⟨n + 1, 0, by omega, by omega, y1, by omega, ?_, ?_, ?_⟩
      · rw [st1_eq hb]
        simp only
        rw [← pat_take hk, pk]
        congr 2
        rw [show (k : Int) * U - Ep d M (n + 1) + L = k * U + (L - Ep d M (n + 1)) from by omega]
        rw [place2 hU k (by omega) (by omega), pat_bit, if_pos hk, pk]
      · rw [st1_eq hb]
        simp only
        rw [Int.natCast_add, Int.add_mul]
        simp; omega
      · rw [st1_eq hb]
        simp only
        rw [show 10 * (n + 1) + 0 = k from by omega]
        simp
    · rw [bd] at h
      have hb : bgS (pat l) U L M ⟨bg', last', (pat l).take k⟩ = bg' := bgS_none (edge10 hU n la (.inl (by show bg' + L < _; rw [bg]; omega)) (by show bg' + L < _; rw [bg]; omega))
      refine ⟨_, by rw [st1_eq hb], ?_⟩
      have hby : bg' + L = ((k - 1 + 1 : Nat) : Int) * U + (L - Ep d M n - 10 * d) := by rw [show k - 1 + 1 = k from by omega, bg]; omega
      rw [hby, place2p hU (k - 1) (by omega) (by omega), pat_bit, if_pos (by omega), pk, pk0]
      decide
  · have i8 : i ≤ 8 := by omega
    have m10 : k % 10 = i + 1 := by omega
    have k10 : k / 10 = n := by omega
    have bd : badN L M d k ↔ (i = 4 ∧ L < Ep d M n + 5 * d) := by
      unfold badN
      rw [m10, k10]
      constructor
      · rintro (⟨h, h2⟩ | ⟨h, _⟩)
        · exact ⟨by omega, h2⟩
        · omega
      · rintro ⟨rfl, h⟩
        exact .inl ⟨rfl, h⟩
    obtain ⟨y, hy⟩ : ∃ y, y = L - Ep d M n - (i + 1 : Nat) * d := ⟨_, rfl⟩
    have t0 := mulb (i := 0) (j := i + 1) (d := d) (by omega) (by omega)
    have t9 := mulb (i := i + 1) (j := 9) (d := d) (by omega) (by omega)
    rw [show ((0 : Nat) : Int) = 0 from rfl, Int.zero_mul] at t0
    have t9' : ((i + 1 : Nat) : Int) * d ≤ 9 * d := t9
    have ti : ((i + 1 : Nat) : Int) * d = i * d + d := by rw [Int.natCast_add, Int.add_mul]; simp
    have ti0 : 0 ≤ (i : Int) * d := Int.mul_nonneg (by omega) (by omega)
    have hby : bg' + L = k * U + y := by rw [bg, hy]; omega
    have u0 : ((k + 1 : Nat) : Int) * U = k * U + U := by rw [Int.natCast_add, Int.add_mul]; simp
    have ul : ((10 * n + i : Nat) : Int) * U + U = k * U := by
      rw [show k = (10 * n + i) + 1 from kk, Int.natCast_add (10 * n + i), Int.add_mul]; simp
    have km : k - 1 + 1 = k := by omega
    have go : bgS (pat l) U L M ⟨bg', last', (pat l).take k⟩ = bg' → bitAt (pat l) ((k * U + y) / U) = pb k → (5 ≤ i + 1 → Ep d M n + 5 * d ≤ L) → ∃ n i, InvN l U L M d (k + 1) n i (st1 (pat l) U L M (U - d) ⟨bg', last', (pat l).take k⟩) := fun hb hbit f5 => by
      refine ⟨n, i + 1, by omega, by omega, e1, f5, ?_, ?_, ?_⟩
      · rw [st1_eq hb, hby, hbit]; exact pat_take hk
      · rw [st1_eq hb]
        simp only
        rw [u0, bg, show ((i + 1 + 1 : Nat) : Int) * d = (i + 1 : Nat) * d + d from by rw [Int.natCast_add (i + 1), Int.add_mul]; simp]
        omega
      · rw [st1_eq hb]
        simp only
        rw [hby, hy, show 10 * n + (i + 1) = k from by omega]
        omega
    by_cases c4 : i ≤ 4
    · have pk0 : pb (k - 1) = 0 := by unfold pb; rw [if_pos (by omega)]
      rw [pk0] at hlast
      have hb : bgS (pat l) U L M ⟨bg', last', (pat l).take k⟩ = bg' := bgS_zero hlast
      have t5 := mulb (i := i + 1) (j := 5) (d := d) (by omega) (by omega)
      have t5' : ((i + 1 : Nat) : Int) * d ≤ 5 * d := t5
      have y0 : -U ≤ y := by omega
      have y2 : y < U := by omega
      by_cases c3 : i ≤ 3
      · have nb : ¬ badN L M d k := by rw [bd]; rintro ⟨h, _⟩; omega
        refine ⟨fun _ => go hb ?_ (by omega), fun h => absurd h nb⟩
        have pk : pb k = 0 := by unfold pb; rw [if_pos (by omega)]
        by_cases c : 0 ≤ y
        · rw [place2 hU k c y2, pat_bit, if_pos hk]
        · have := place2p (y := y) hU (k - 1) (by omega) y0
          rw [km] at this
          rw [this, pat_bit, if_pos (by omega), pk0, pk]
      · have i4 : i = 4 := by omega
        subst i4
        have hy5 : y = L - Ep d M n - 5 * d := hy
        have pk : pb k = 1 := by unfold pb; rw [if_neg (by omega)]
        refine ⟨fun nb => ?_, fun h => ?_⟩
        · rw [bd] at nb
          exact go hb (by rw [place2 hU k (by omega) y2, pat_bit, if_pos hk]) (by omega)
        · rw [bd] at h
          refine ⟨_, by rw [st1_eq hb], ?_⟩
          have := place2p (y := y) hU (k - 1) (by omega) y0
          rw [km] at this
          rw [hby, this, pat_bit, if_pos (by omega), pk0, pk]
          decide
    · have f5 := e5 (by omega)
      have pk0 : pb (k - 1) = 1 := by unfold pb; rw [if_neg (by omega)]
      rw [pk0] at hlast
      have pk : pb k = 1 := by unfold pb; rw [if_neg (by omega)]
      have y0 : -U ≤ y := by omega
      have y2 : y < U := by omega
      have v0 : ((10 * n + i : Nat) : Int) * U = (10 * n : Nat) * U + i * U := by rw [Int.natCast_add, Int.add_mul]
      have vi := mulb (i := 5) (j := i) (d := U) (by omega) (by omega)
      have vi' : 5 * U ≤ (i : Int) * U := vi
      have v10 : ((10 * n + 10 : Nat) : Int) * U = (10 * n : Nat) * U + 10 * U := by rw [Int.natCast_add, Int.add_mul]; rfl
      have v20 : ((10 * n + 20 : Nat) : Int) * U = (10 * n : Nat) * U + 20 * U := by rw [Int.natCast_add, Int.add_mul]; rfl
      have vi8 := mulb (i := i) (j := 8) (d := U) (by omega) (by omega)
      have vi8' : (i : Int) * U ≤ 8 * U := vi8
      have la : ((10 * n : Nat) : Int) * U ≤ last' := by rw [last]; omega
      have nb : ¬ badN L M d k := by rw [bd]; rintro ⟨h, _⟩; omega
      refine ⟨fun _ => go (bgS_none (edge10 hU n la (.inl (by rw [hby]; omega)) (by rw [hby]; omega))) ?_ (fun _ => f5), fun h => absurd h nb⟩
      by_cases c : 0 ≤ y
      · rw [place2 hU k c y2, pat_bit, if_pos hk]
      · have := place2p (y := y) hU (k - 1) (by omega) y0
        rw [km] at this
        rw [this, pat_bit, if_pos (by omega), pk0, pk]
end
/-! ### joined -/
theorem fd_pre {row : List Int} {U L M S : Int} (k m : Nat) : ∃ t, (stN row U L M S (k + m)).fd = (stN row U L M S k).fd ++ t := by
  induction m with
  | zero => exact ⟨[], by simp⟩
  | succ m ih =>
    obtain ⟨t, ht⟩ := ih
    refine ⟨t ++ [bitAt row ((bgS row U L M (stN row U L M S (k + m)) + L) / U)], ?_⟩
    show (st1 row U L M S (stN row U L M S (k + m))).fd = _
    unfold st1
    simp only [ht, List.append_assoc]
structure WrongAt (U L M S : Int) (w : Nat) : Prop where
  right : ∀ l, l % 10 = 0 → l < w + 2 → (stN (pat l) U L M S l).fd = pat l
  wrong : ∀ l, w + 2 ≤ l → ∃ x t, x ≠ pb w ∧ (stN (pat l) U L M S l).fd = (pat l).take w ++ x :: t
theorem least_nat {P : Nat → Prop} (n : Nat) (h : P n) : ∃ w, w ≤ n ∧ P w ∧ ∀ k, k < w → ¬ P k := by
  induction n using Nat.strongRecOn with
  | _ n ih =>
    by_cases c : ∃ k, k < n ∧ P k
    · obtain ⟨k, hk, hp⟩ := c
      obtain ⟨w, h1, h2, h3⟩ := ih k hk hp
      exact ⟨w, by omega, h2, h3⟩
    · exact ⟨n, Nat.le_refl _, h, fun k hk hp => c ⟨k, hk, hp⟩⟩
theorem pat_all (l : Nat) : (pat l).take l = pat l := by
  have := List.take_length (l := pat l)
  rwa [pat_len] at this
theorem wrong_end {l w : Nat} {U L M S x : Int} (hl : w + 2 ≤ l) (h : (stN (pat l) U L M S (w + 1)).fd = (pat l).take w ++ [x]) : ∃ t, (stN (pat l) U L M S l).fd = (pat l).take w ++ x :: t := by
  obtain ⟨t, ht⟩ := fd_pre (row := pat l) (U := U) (L := L) (M := M) (S := S) (w + 1) (l - (w + 1))
  rw [show w + 1 + (l - (w + 1)) = l from by omega, h] at ht
  exact ⟨t, by rw [ht]; simp⟩
theorem wrongP {U L M d : Int} (hU : 0 < U) (hL : 0 < L) (hM : 0 ≤ M) (hd : 0 < d) (hd2 : 10 * d ≤ U) (hL2 : 10 * L ≤ 11 * U) {w : Nat} (hw : badP U L M d w) (hn : ∀ k, k < w → ¬ badP U L M d k) : WrongAt U L M (U + d) w := by
  have w1 : 1 ≤ w := by
    rcases Nat.eq_zero_or_pos w with h | h
    · subst h; obtain ⟨h | h, _⟩ := hw <;> omega
    · exact h
  have one : ∀ l, 2 ≤ l → InvP l U L M d 1 0 0 (stN (pat l) U L M (U + d) 1) := fun l hl => by
    refine ⟨rfl, by omega, by simp [Ep]; exact hL2, by omega, by omega, ?_, by simp [stN, st1, bgS, edS, Ep], by simp [stN, st1, bgS, edS, Ep]⟩
    have h1 := place_eq (U := U) hU 0 (y := L) (by omega)
    have h2 := place2s (U := U) (y := L) hU 0
    rw [show (0 : Int) * U + L = L from by omega] at h1
    rw [show ((0 : Nat) : Int) * U + L = L from by simp] at h2
    have pk : pb 0 = 0 := rfl
    have pk1 : pb 1 = 0 := rfl
    have b0 := pat_bit l 0
    have b1 := pat_bit l 1
    rw [if_pos (by omega)] at b0 b1
    have : (pat l).take 1 = [0] := (pat_take (l := l) (k := 0) (by omega)).symm
    rw [this]
    simp only [stN, st1, bgS, edS, List.getLast?_nil, List.nil_append]
    by_cases c : L < U
    · simp [h1 c]; exact b0
    · simp only [Int.zero_add, reduceCtorEq, if_false]
      rw [h2 (by omega) (by omega), b1, pk1]
  have run : ∀ l, (w + 2 ≤ l ∨ l % 10 = 0) → ∀ k, 1 ≤ k → k ≤ w → k ≤ l → ∃ n i, InvP l U L M d k n i (stN (pat l) U L M (U + d) k) := fun l hl k => by
    induction k with
    | zero => exact fun h => by omega
    | succ k ih =>
      intro _ h2 h3
      by_cases c : k = 0
      · subst c
        exact ⟨0, 0, one l (by omega)⟩
      · obtain ⟨n, i, v⟩ := ih (by omega) (by omega) (by omega)
        exact (stepP hU hL hM hd hd2 hL2 (by omega) (by omega) v).1 (hn k (by omega))
  constructor
  · intro l h1 h2
    by_cases c0 : l = 0
    · subst c0; rfl
    · by_cases c : l ≤ w
      · obtain ⟨n, i, v⟩ := run l (.inr h1) l (by omega) c (Nat.le_refl _)
        rw [v.fd, pat_all]
      · have e : l = w + 1 := by omega
        subst e
        obtain ⟨n, i, v⟩ := run (w + 1) (.inr h1) w w1 (Nat.le_refl _) (by omega)
        have := (stepP hU hL hM hd hd2 hL2 (by omega) (.inr h1) v).2.2 hw rfl
        rw [pat_all] at this
        exact this
  · intro l hl
    obtain ⟨n, i, v⟩ := run l (.inl hl) w w1 (Nat.le_refl _) (by omega)
    obtain ⟨x, e, hx⟩ := (stepP hU hL hM hd hd2 hL2 (by omega) (.inl (by omega)) v).2.1 hw (by omega)
    obtain ⟨t, ht⟩ := wrong_end hl e
    exact ⟨x, t, hx, ht⟩
theorem wrongN {U L M d : Int} (hU : 0 < U) (hL : 0 < L) (hM : 0 < M) (hML : M < L) (hLU : L < U) (hd : M < 10 * d) (hd2 : 10 * d ≤ U) {w : Nat} (hw : badN L M d w) (hn : ∀ k, k < w → ¬ badN L M d k) : WrongAt U L M (U - d) w := by
  have w1 : 1 ≤ w := by
    rcases Nat.eq_zero_or_pos w with h | h
    · subst h; rcases hw with ⟨h, _⟩ | ⟨_, h, _⟩ <;> omega
    · exact h
  have w5 : w % 10 = 5 ∨ w % 10 = 0 := by
    rcases hw with ⟨h, _⟩ | ⟨h, _⟩
    · exact .inl h
    · exact .inr h
  have one : ∀ l, 2 ≤ l → InvN l U L M d 1 0 0 (stN (pat l) U L M (U - d) 1) := fun l hl => by
    refine ⟨rfl, by omega, by simp [Ep]; exact hL, by omega, ?_, by simp [stN, st1, bgS, edS, Ep], by simp [stN, st1, bgS, edS, Ep]⟩
    have h1 := place_eq (U := U) hU 0 (y := L) (by omega)
    rw [show (0 : Int) * U + L = L from by omega] at h1
    have b0 := pat_bit l 0
    rw [if_pos (by omega)] at b0
    have : (pat l).take 1 = [0] := (pat_take (l := l) (k := 0) (by omega)).symm
    rw [this]
    simp only [stN, st1, bgS, edS, List.getLast?_nil, List.nil_append]
    simp [h1 hLU]; exact b0
  have run : ∀ l, 2 ≤ l → ∀ k, 1 ≤ k → k ≤ w → k ≤ l → ∃ n i, InvN l U L M d k n i (stN (pat l) U L M (U - d) k) := fun l hl k => by
    induction k with
    | zero => exact fun h => by omega
    | succ k ih =>
      intro _ h2 h3
      by_cases c : k = 0
      · subst c
        exact ⟨0, 0, one l hl⟩
      · obtain ⟨n, i, v⟩ := ih (by omega) (by omega) (by omega)
        exact (stepN hU hL hM hML hLU hd hd2 (by omega) v).1 (hn k (by omega))
  constructor
  · intro l h1 h2
    by_cases c0 : l = 0
    · subst c0; rfl
    · obtain ⟨n, i, v⟩ := run l (by omega) l (by omega) (by omega) (Nat.le_refl _)
      rw [v.fd, pat_all]
  · intro l hl
    obtain ⟨n, i, v⟩ := run l (by omega) w w1 (Nat.le_refl _) (by omega)
    obtain ⟨x, e, hx⟩ := (stepN hU hL hM hML hLU hd hd2 (by omega) v).2 hw
    obtain ⟨t, ht⟩ := wrong_end hl e
    exact ⟨x, t, hx, ht⟩
/-! ### how far clocks may differ -/
def fineB (U L M S : Int) : Bool := if U ≤ S then decide (10 * (S - U) ≤ M) && decide (9 * (S - U) + L < U) else decide (10 * (U - S) ≤ M) && decide (9 * (U - S) ≤ L)
def soonB (U L M S : Int) : Bool := decide (U ≤ 100 * (10 * ((S - U).natAbs : Nat) - M)) || decide (U ≤ 9 * (S - U) + L)
theorem mul_le_of {m n d : Int} (h0 : 0 ≤ m) (h : m ≤ n) (hd : 0 ≤ d) : 0 ≤ m * d ∧ m * d ≤ n * d := ⟨Int.mul_nonneg h0 hd, Int.mul_le_mul_of_nonneg_right h hd⟩
theorem fine_hear {U L M S : Int} (hU : 0 < U) (hL : 0 < L) (hM : 0 < M) (hML : M < L) (hLU : S ≤ U → L < U) (hf : fineB U L M S = true) {row : List Int} (h0 : row[0]? = some 0) (hb : ∀ x ∈ row, x = 0 ∨ x = 1) (h6 : Row6 row) : (stN row U L M S row.length).fd = row := by
  unfold fineB at hf
  by_cases c : U ≤ S
  · rw [if_pos c, Bool.and_eq_true, decide_eq_true_eq, decide_eq_true_eq] at hf
    refine hear_right hU h0 hb h6 (fun m a b => ?_) fun m a b => ?_
    · obtain ⟨x, y⟩ := mul_le_of a b (show 0 ≤ S - U by omega)
      omega
    · obtain ⟨x, y⟩ := mul_le_of a b (show 0 ≤ S - U by omega)
      omega
  · rw [if_neg c, Bool.and_eq_true, decide_eq_true_eq, decide_eq_true_eq] at hf
    have := hLU (by omega)
    have e : ∀ m : Int, m * (S - U) = -(m * (U - S)) := fun m => by rw [← Int.mul_neg]; congr 1; omega
    refine hear_right hU h0 hb h6 (fun m a b => ?_) fun m a b => ?_
    · obtain ⟨x, y⟩ := mul_le_of a b (show 0 ≤ U - S by omega)
      rw [e]; omega
    · obtain ⟨x, y⟩ := mul_le_of a b (show 0 ≤ U - S by omega)
      rw [e]; omega
theorem wrong_is {U L M S : Int} (hU : 0 < U) (hL : 0 < L) (hM : 0 < M) (hML : M < L) (hLU : S ≤ U → L < U) (hL2 : 10 * L ≤ 11 * U) (d1 : 10 * (S - U) ≤ U) (d2 : 10 * (U - S) ≤ U) (hf : fineB U L M S = false) (hs : soonB U L M S = true) : ∃ w, w ≤ 1010 ∧ WrongAt U L M S w := by
  unfold fineB at hf
  unfold soonB at hs
  rw [Bool.or_eq_true, decide_eq_true_eq, decide_eq_true_eq] at hs
  by_cases c : U ≤ S
  · rw [if_pos c, Bool.and_eq_false_iff, decide_eq_false_iff_not, decide_eq_false_iff_not] at hf
    have hd : 0 < S - U := by
      by_cases c2 : S = U
      · have := hLU (by omega)
        omega
      · omega
    obtain ⟨k, hk, hb⟩ : ∃ k, k ≤ 1010 ∧ badP U L M (S - U) k := by
      by_cases c9 : U ≤ 9 * (S - U) + L
      · refine ⟨9, by omega, .inr rfl, ?_⟩
        show U ≤ Ep (S - U) M 0 + ((9 : Nat) : Int) * (S - U) + L
        have e : ((9 : Nat) : Int) * (S - U) = 9 * (S - U) := rfl
        simp only [Ep]
        omega
      · refine ⟨1009, by omega, .inr rfl, ?_⟩
        show U ≤ Ep (S - U) M 100 + ((9 : Nat) : Int) * (S - U) + L
        have e : ((9 : Nat) : Int) * (S - U) = 9 * (S - U) := rfl
        have g := Ep_ge (S - U) M 100
        have e2 : ((100 : Nat) : Int) * (10 * (S - U) - M) = 100 * (10 * (S - U) - M) := rfl
        omega
    obtain ⟨w, w1, w2, w3⟩ := least_nat (P := badP U L M (S - U)) k hb
    have := wrongP hU hL (by omega) hd d1 hL2 w2 w3
    rw [show U + (S - U) = S from by omega] at this
    exact ⟨w, by omega, this⟩
  · rw [if_neg c] at hf
    have l1 := hLU (by omega)
    have hs1 : U ≤ 100 * (10 * (U - S) - M) := by omega
    have hb : badN L M (U - S) 1005 := by
      refine .inl ⟨rfl, ?_⟩
      show L < Ep (U - S) M 100 + 5 * (U - S)
      have g := Ep_ge (U - S) M 100
      have e2 : ((100 : Nat) : Int) * (10 * (U - S) - M) = 100 * (10 * (U - S) - M) := rfl
      omega
    obtain ⟨w, w1, w2, w3⟩ := least_nat (P := badN L M (U - S)) 1005 hb
    have := wrongN hU hL hM hML l1 (by omega) d2 w2 w3
    rw [show U - (U - S) = S from by omega] at this
    exact ⟨w, by omega, this⟩
end Mp

set_option Elab.async false
set_option linter.all false
set_option maxRecDepth 100000
namespace Mp
open PySem PySem.Spec PyProof.Rows L2
/-! ### edges -/
theorem at_bit {row : List Int} {k : Int} (h : 0 ≤ k) (h2 : k < row.length) : atI (row.map D.int) k = some (.int (bitAt row k)) := by
  have e2 := atI_get (l := row.map D.int) h (by simpa using h2)
  rw [e2, List.getElem_map]
  unfold bitAt
  rw [if_pos ⟨h, h2⟩, List.getD_eq_getElem?_getD, List.getElem?_eq_getElem (by omega)]
  rfl
def edgeD : Option Nat → D
  | none => .non
  | some j => .tup [.int (j : Nat), .int 1]
@[simp] theorem max_int2 (i j : Int) : biD "max" [.int i, .int j] = some (.int (if j > i then j else i)) := (rfl)
@[simp] theorem min_int2 (i j : Int) : biD "min" [.int i, .int j] = some (.int (if j < i then j else i)) := (rfl)
theorem smallI_of {i : Int} (h : -1000000000000000000 ≤ i) (h2 : i ≤ 1000000000000000000) : smallI i = true := by
  unfold smallI
  exact decide_eq_true (by omega)
theorem edge_body (n : Nat) (o : Obs) (row : List Int) (b e : D) (s : Sl) (pl : Nat) (hp : pl < row.length) :
    denSs (Fc n) Gl lawM w_edge_between_0 [.v (.tup (row.map .int)), .v b, .v e, .v (.int (pl : Nat))] o =
      if isEdge row pl then .rt (.tup [.int (pl : Nat), .int 1]) o else .nx [.v (.tup (row.map .int)), .v b, .v e, .v (.int (pl : Nat))] o := by
  have h1 := at_bit (row := row) (k := (pl : Nat)) (by omega) (by omega)
  unfold isEdge
  by_cases c1 : bitAt row pl = 0
  · by_cases c2 : pl = 0
    · subst c2
      simp at h1 c1
      simp [w_edge_between_0, h1, c1]
    · have h2 := at_bit (row := row) (k := (pl : Int) - 1) (by omega) (by omega)
      have c2' : ¬ (pl : Int) = 0 := by omega
      by_cases c3 : bitAt row ((pl : Int) - 1) = 1
      · simp [w_edge_between_0, h1, h2, c1, c2, c2', c3]
      · simp [w_edge_between_0, h1, h2, c1, c2, c2', c3]
  · simp [w_edge_between_0, h1, c1]
theorem edge_ok {U : Int} (h : 0 < U) (h2 : U < 1099511627776) (row : List Int) (hl : row.length < 100000) (last heard : Int) (b1 : -100000000000000000 ≤ last) (b2 : last ≤ 100000000000000000) (b3 : -100000000000000000 ≤ heard) (b4 : heard ≤ 100000000000000000) (n : Nat) (o : Obs) :
    Fc (n + 2) "edge_between" [.tup (row.map .int), rt last U, rt heard U] o = .ok (edgeD (edgeF row U last heard)) o := by
  have f1 : last / U ≤ 100000000000000000 := Int.le_trans (Int.ediv_le_ediv h b2) (Int.ediv_le_self _ (by omega))
  have f2 : -100000000000000000 ≤ last / U := by
    rw [Int.le_ediv_iff_mul_le h]
    have := Int.mul_le_mul_of_nonneg_left (show 1 ≤ U by omega) (show (0:Int) ≤ 100000000000000000 by omega)
    omega
  have f3 : heard / U ≤ 100000000000000000 := Int.le_trans (Int.ediv_le_ediv h b4) (Int.ediv_le_self _ (by omega))
  have f4 : -100000000000000000 ≤ heard / U := by
    rw [Int.le_ediv_iff_mul_le h]
    have := Int.mul_le_mul_of_nonneg_left (show 1 ≤ U by omega) (show (0:Int) ≤ 100000000000000000 by omega)
    omega
  obtain ⟨lo, hlo⟩ : ∃ lo : Int, lo = if last / U + 1 > 0 then last / U + 1 else 0 := ⟨_, rfl⟩
  obtain ⟨hi, hhi⟩ : ∃ hi : Int, hi = (if heard / U < (row.length : Int) - 1 then heard / U else (row.length : Int) - 1) + 1 := ⟨_, rfl⟩
  have g1 : 0 ≤ lo := by rw [hlo]; split <;> omega
  have g2 : lo ≤ 100000000000000001 := by rw [hlo]; split <;> omega
  have g3 : hi ≤ row.length := by rw [hhi]; split <;> omega
  have g4 : -100000000000000000 ≤ hi := by rw [hhi]; split <;> omega
  have s1 : smallI lo = true := smallI_of (by omega) (by omega)
  have s2 : smallI hi = true := smallI_of (by omega) (by omega)
  have key : ∀ j : Nat, j < row.length → ((decide (last < U * j) && decide (U * j ≤ heard)) = true ↔ lo ≤ j ∧ (j : Int) < hi) := fun j hj => by
    rw [Bool.and_eq_true, decide_eq_true_eq, decide_eq_true_eq]
    have a1 : last < U * j ↔ last / U < j := by rw [Int.mul_comm]; exact (Int.ediv_lt_iff_lt_mul h).symm
    have a2 : U * j ≤ heard ↔ (j : Int) ≤ heard / U := by rw [Int.mul_comm]; exact (Int.le_ediv_iff_mul_le h).symm
    rw [a1, a2, hlo, hhi]
    constructor
    · rintro ⟨x, y⟩
      constructor <;> split <;> omega
    · rintro ⟨x, y⟩
      constructor <;> (split at x <;> split at y <;> omega)
  rw [r_edge_between]
  simp [m_edge_between, floor_ok h h2]
  rw [← hlo, ← hhi]
  simp [s1, s2]
  refine endR_seq (forD_wp (fun i env o' => o' = o ∧ (∃ s, env = [.v (.tup (row.map .int)), .v (rt last U), .v (rt heard U), s]) ∧ ∀ j : Nat, lo ≤ j → (j : Int) < lo + i → isEdge row j = false) (i := 0) ⟨rfl, ⟨.un, rfl⟩, fun j x y => by omega⟩ ?_ ?_)
  · rintro j d env o' hj ⟨rfl, ⟨s, rfl⟩, hn⟩
    obtain ⟨hj, rfl⟩ := rangeD_at hj
    obtain ⟨pl, hpl⟩ := Int.eq_ofNat_of_zero_le (show 0 ≤ lo + (j : Nat) * 1 by omega)
    rw [hpl]
    refine ⟨_, rfl, ?_⟩
    have hp : pl < row.length := by omega
    have eb := edge_body (n + 1) o' row (rt last U) (rt heard U) s pl hp
    simp only [List.set_cons_succ, List.set_cons_zero]
    rw [eb]
    cases he : isEdge row pl with
    | true =>
      simp
      have : edgeF row U last heard = some pl := by
        unfold edgeF
        rw [List.find?_range_eq_some]
        refine ⟨?_, by simpa using hp, fun i hi => ?_⟩
        · rw [he, Bool.true_and]; exact (key pl hp).mpr ⟨by omega, by omega⟩
        · by_cases q : lo ≤ (i : Int)
          · rw [hn i q (by omega)]; rfl
          · have : ¬ ((decide (last < U * i) && decide (U * i ≤ heard)) = true) := fun z => q ((key i (by omega)).mp z).1
            rw [Bool.not_eq_true] at this
            rw [this, Bool.and_false]; rfl
      rw [this]; rfl
    | false =>
      simp
      intro k h1 h2
      by_cases q : (k : Int) < lo + j
      · exact hn k h1 (by omega)
      · have : k = pl := by omega
        rw [this]; exact he
  · rintro env o' ⟨rfl, ⟨s, rfl⟩, hn⟩
    simp
    have : edgeF row U last heard = none := by
      unfold edgeF
      rw [List.find?_range_eq_none]
      intro i hi'
      rw [rangeD_len] at hn
      by_cases q : lo ≤ (i : Int) ∧ (i : Int) < hi
      · rw [hn i q.1 (by omega)]; rfl
      · have : ¬ ((decide (last < U * i) && decide (U * i ≤ heard)) = true) := fun z => q ((key i hi').mp z)
        rw [Bool.not_eq_true] at this
        rw [this, Bool.and_false]; rfl
    rw [this]; rfl
/-! ### where bits are heard -/
theorem wire_at_ok {U : Int} (h : 0 < U) (h2 : U < 1099511627776) (row : List Int) (A : Int) (n : Nat) (o : Obs) : Fc (n + 2) "wire_at" [.tup (row.map .int), rt A U] o = .ok (.int (bitAt row (A / U))) o := by
  rw [r_wire_at]
  by_cases c1 : 0 ≤ A / U
  · by_cases c2 : A / U < row.length
    · simp [m_wire_at, floor_ok h h2, c1, c2, at_bit c1 c2]
    · simp [m_wire_at, floor_ok h h2, c1, c2, bitAt]
  · simp [m_wire_at, floor_ok h h2, c1, bitAt]
theorem nought (U : Int) (h : 0 < U) : D.tup [.int 0, .int 1] = rt 0 U := by
  rw [← rt_of (by decide) (by decide)]
  exact rt_eq (by decide) h (by simp)
theorem place_rt (U : Int) (h : 0 < U) (j : Nat) : D.tup [.int (j : Nat), .int 1] = rt (U * j) U := by
  rw [← rt_of (by decide) (by simp)]
  exact rt_eq (by decide) h (by rw [Int.mul_one, Int.mul_comm])
theorem moved_ok {U : Int} (h : 0 < U) (h2 : U < 1099511627776) (bg M : Int) (hM : 0 < M) (j : Nat) (n : Nat) (o : Obs) : Fc (n + 4) "moved_begin" [rt bg U, edgeD (some j), rt M U] o = .ok (rt (bg + mv M (U * j - bg)) U) o := by
  rw [r_moved_begin, edgeD, place_rt U h j]
  have e1 := rless_ok h h2
  have e2 := rsum_ok h h2
  have e3 := below_ok h h2
  have e4 := e1 0 M
  rw [← nought U h] at e4
  by_cases c1 : M < U * j - bg
  · have c : mv M (U * j - bg) = M := by unfold mv; rw [if_neg (show ¬ U * j - bg < M by omega), if_pos (by omega)]
    simp [m_moved_begin, e1, e2, e3, c1, c]
  · by_cases c2 : U * j - bg < 0 - M
    · have c : mv M (U * j - bg) = 0 - M := by unfold mv; rw [if_pos (show U * j - bg < M by omega), if_neg (by omega)]
      simp at c2 c e4
      simp [m_moved_begin, e1, e2, e3, e4, c1, c2, c]
      rfl
    · have c : mv M (U * j - bg) = U * j - bg := by
        unfold mv
        by_cases q : U * j - bg < M
        · rw [if_pos q]; split <;> omega
        · rw [if_neg q]; split <;> omega
      simp at c2 e4
      have c2' : ¬ U * (j : Int) - bg < -M := by omega
      simp [m_moved_begin, e1, e2, e3, e4, c1, c2', c]
      congr 1; omega
/-! ### the bits that are heard -/
@[simp] theorem noL_non : noL .non = true := (rfl)
@[simp] theorem noL_edge (e : Option Nat) : noL (edgeD e) = true := by cases e <;> rfl
@[simp] theorem tru_lst (ds : List D) : truD (.lst ds) = some (!ds.isEmpty) := (rfl)
@[simp] theorem emp_app {α : Type} (l : List α) (x : α) : (l ++ [x]).isEmpty = false := by cases l <;> rfl
@[simp] theorem nis_some (j : Nat) : cmpD .IsNot (edgeD (some j)) .non = some true := (rfl)
@[simp] theorem nis_none : cmpD .IsNot (edgeD none) .non = some false := (rfl)
theorem at_last (fs : List D) (x : D) : atI (fs ++ [x]) (-1) = some x := by
  unfold atI ixN
  rw [if_neg (by decide), if_pos (by simp; omega)]
  simp
  have : (-1 + ((fs.length : Int) + 1)).toNat = fs.length := by omega
  rw [this]; simp
section
variable {row : List Int} {U L M S : Int}
theorem bgS_abs (hM : 0 < M) (s : Hs) : s.bg - M ≤ bgS row U L M s ∧ bgS row U L M s ≤ s.bg + M := by
  unfold bgS
  split
  · have := mv_abs (far := U * ((‹Nat› : Nat) : Int) - s.bg) hM
    omega
  · omega
theorem stN_abs (hL : 0 < L) (hL2 : L < 100000000000) (hM : 0 < M) (hM2 : M < 100000000000) (hS : 0 < S) (hS2 : S < 100000000000) : ∀ k : Nat, -(200000000000 * (k : Int)) ≤ (stN row U L M S k).bg ∧ (stN row U L M S k).bg ≤ 200000000000 * k ∧ -(200000000000 * (k : Int)) ≤ (stN row U L M S k).last ∧ (stN row U L M S k).last ≤ 200000000000 * k ∧ (stN row U L M S k).fd.length = k
  | 0 => by simp [stN]
  | k + 1 => by
    obtain ⟨a, b, c, d, e⟩ := stN_abs hL hL2 hM hM2 hS hS2 k
    have := bgS_abs (row := row) (U := U) (L := L) hM (stN row U L M S k)
    simp only [stN, st1, List.length_append, e]
    refine ⟨?_, ?_, ?_, ?_, rfl⟩ <;> (push_cast; omega)
variable (h : 0 < U) (h2 : U < 1099511627776) (hl : row.length < 100000)
include h h2 hl
theorem heard_body (hM : 0 < M) (n : Nat) (o : Obs) (ho : o.all noLO = true) (tm : D) (s : Hs) (hf : s.fd.length < 100000) (b1 : -30000000000000000 ≤ s.bg) (b2 : s.bg ≤ 30000000000000000) (b3 : -30000000000000000 ≤ s.last) (b4 : s.last ≤ 30000000000000000) (hL : 0 < L) (hL2 : L < 100000000000) (s1 s2 s3 : Sl) :
    ∃ t2 t3, denSs (Fc (n + 5)) Gl lawM w_heard_by_0 [.v tm, .v (rt S U), .v (.tup (row.map .int)), s1, .v (rt L U), .v (rt M U), .v (rt s.bg U), .v (rt s.last U), .ol (s.fd.map .int), s2, s3] o =
      .nx [.v tm, .v (rt S U), .v (.tup (row.map .int)), s1, .v (rt L U), .v (rt M U), .v (rt (st1 row U L M S s).bg U), .v (rt (st1 row U L M S s).last U), .ol ((st1 row U L M S s).fd.map .int), t2, t3] o := by
  have e1 := rsum_ok h h2
  have e2 := wire_at_ok h h2 row
  have e3 := edge_ok h h2 row hl s.last (s.bg + L) (by omega) (by omega) (by omega) (by omega)
  have e4 := fun j n o => moved_ok h h2 s.bg M hM j n o
  have hf2 : s.fd.length < 16777216 := by omega
  obtain ⟨bg, last, fd⟩ := s
  simp only at e3 e4 hf2
  simp only [st1, bgS, edS]
  rcases List.eq_nil_or_concat fd with rfl | ⟨fs, x, rfl⟩
  · simp [w_heard_by_0, e1, e2, ho]
  · have hx := at_last (fs.map D.int) (.int x)
    simp at hf2
    by_cases c : x = 1
    · subst c
      cases he : edgeF row U last (bg + L) with
      | none =>
        rw [he] at e3
        simp [w_heard_by_0, e1, e2, e3, ho, hx, hf2, he]
      | some j =>
        rw [he] at e3
        simp [w_heard_by_0, e1, e2, e3, e4, ho, hx, hf2, he]
    · simp [w_heard_by_0, e1, e2, ho, hx, hf2, c]
theorem edges_test (n : Nat) (o : Obs) (last hd : Int) (j : Nat) (hj : j < row.length) (e0 e1 e3 e4 e6 e7 e8 e10 e12 e13 e14 e15 e16 e17 e18 : Sl) :
    denT (Fc n) Gl (.con (.cons (.cmp .Eq (.ix (.var 2) (.var 19)) (.lit (.int 0))) (.cons (.dis (.cons (.cmp .Eq (.var 19) (.lit (.int 0))) (.cons (.cmp .Eq (.ix (.var 2) (.bin .Sub (.var 19) (.lit (.int 1)))) (.lit (.int 1))) .nil))) (.cons (.chn .Lt .LtE (.var 9) (.bin .Mult (.var 5) (.var 19)) (.var 11)) .nil))))
      [e0, e1, .v (.tup (row.map .int)), e3, e4, .v (.int U), e6, e7, e8, .v (.int last), e10, .v (.int hd), e12, e13, e14, e15, e16, e17, e18, .v (.int (j : Nat))] o = .ok (isEdge row j && (decide (last < U * j) && decide (U * j ≤ hd))) o := by
  have h1 := at_bit (row := row) (k := (j : Nat)) (by omega) (by omega)
  have m1 : mulOk U j = true := mulOk_r (by omega)
  have fin : ∀ b : Bool, b = true → isEdge row j = b → denE (Fc n) Gl (.chn .Lt .LtE (.var 9) (.bin .Mult (.var 5) (.var 19)) (.var 11)) [e0, e1, .v (.tup (row.map .int)), e3, e4, .v (.int U), e6, e7, e8, .v (.int last), e10, .v (.int hd), e12, e13, e14, e15, e16, e17, e18, .v (.int (j : Nat))] o = .ok (.bl (decide (last < U * j) && decide (U * j ≤ hd))) o := fun _ _ _ => by
    by_cases c : last < U * j
    · simp [m1, c]
    · simp [m1, c]
  have fin2 := fin true rfl
  unfold isEdge at fin2 ⊢
  by_cases c1 : bitAt row j = 0
  · by_cases c2 : j = 0
    · subst c2
      simp at h1 c1 fin2
      simp [h1, c1, fin2]
    · have h2 := at_bit (row := row) (k := (j : Int) - 1) (by omega) (by omega)
      have c2' : ¬ (j : Int) = 0 := by omega
      by_cases c3 : bitAt row ((j : Int) - 1) = 1
      · simp [c1, c3] at fin2
        simp [h1, h2, c1, c2, c2', c3, fin2]
      · simp [h1, h2, c1, c2, c2', c3]
  · simp [h1, c1]
end
end Mp

set_option Elab.async false
set_option linter.all false
set_option maxRecDepth 100000
namespace Mp
open PySem PySem.Spec PyProof.Rows L2
theorem plain_ints : ∀ l : List Int, plainDs (l.map D.int) = true
  | [] => rfl
  | a :: l => by simp only [List.map_cons, plainDs, plainD, Bool.true_and]; exact plain_ints l
theorem dep_ints : ∀ l : List Int, depDs (l.map D.int) = 0
  | [] => rfl
  | a :: l => by simp only [List.map_cons, depDs, depD, dep_ints l]; rfl
theorem okD_ints (l : List Int) (h : l.length < 16777216) : okD (.lst (l.map .int)) = true := by
  unfold okD
  simp only [plainD, plain_ints, depD, dep_ints, List.length_map, Bool.true_and, Bool.and_eq_true, decide_eq_true_eq]
  exact ⟨h, by decide⟩
theorem ne_nil (l : List Int) (h : l.length < 16777216) : cmpD .NotEq (.lst (l.map .int)) (.lst []) = some (!l.isEmpty) := by
  rw [ne_okD (okD_ints l h) rfl]
  cases l <;> rfl
section
variable {row : List Int} {U L M S : Int}
variable (h : 0 < U) (h2 : U < 1099511627776) (hl : row.length < 100000)
include h h2 hl
theorem edges_ok (n : Nat) (o : Obs) (last hd : Int) (e0 e1 e3 e4 e6 e7 e8 e10 e12 e13 e14 e15 e16 e17 e18 e19 : Sl) :
    lcD [19] (.nm 19) (denC (Fc n) Gl (.some (.con (.cons (.cmp .Eq (.ix (.var 2) (.var 19)) (.lit (.int 0))) (.cons (.dis (.cons (.cmp .Eq (.var 19) (.lit (.int 0))) (.cons (.cmp .Eq (.ix (.var 2) (.bin .Sub (.var 19) (.lit (.int 1)))) (.lit (.int 1))) .nil))) (.cons (.chn .Lt .LtE (.var 9) (.bin .Mult (.var 5) (.var 19)) (.var 11)) .nil))))))
      (denE (Fc n) Gl (.bin .Mult (.var 5) (.var 19)))
      [e0, e1, .v (.tup (row.map .int)), e3, e4, .v (.int U), e6, e7, e8, .v (.int last), e10, .v (.int hd), e12, e13, e14, e15, e16, e17, e18, e19] (rangeD 0 row.length 1) [] o =
      .ok ((((List.range row.length).filter fun j => isEdge row j && (decide (last < U * j) && decide (U * j ≤ hd))).map fun j : Nat => U * (j : Int)).map D.int) o := by
  have := lcD_map (own := [19]) (tg := .nm 19) (t := denC (Fc n) Gl (.some (.con (.cons (.cmp .Eq (.ix (.var 2) (.var 19)) (.lit (.int 0))) (.cons (.dis (.cons (.cmp .Eq (.var 19) (.lit (.int 0))) (.cons (.cmp .Eq (.ix (.var 2) (.bin .Sub (.var 19) (.lit (.int 1)))) (.lit (.int 1))) .nil))) (.cons (.chn .Lt .LtE (.var 9) (.bin .Mult (.var 5) (.var 19)) (.var 11)) .nil))))))
    (x := denE (Fc n) Gl (.bin .Mult (.var 5) (.var 19))) (env := [e0, e1, .v (.tup (row.map .int)), e3, e4, .v (.int U), e6, e7, e8, .v (.int last), e10, .v (.int hd), e12, e13, e14, e15, e16, e17, e18, e19]) (o := o)
    (p := fun d => match d with | .int i => isEdge row i.toNat && (decide (last < U * i) && decide (U * i ≤ hd)) | _ => false) (f := fun d => match d with | .int i => .int (U * i) | _ => .non) (ds := rangeD 0 row.length 1) (acc := []) (by simp [rangeD_len]; omega) (fun d hd' => by
      obtain ⟨j, hj⟩ := List.getElem?_of_mem hd'
      obtain ⟨hj2, rfl⟩ := rangeD_at hj
      have m1 : mulOk U j = true := mulOk_r (by omega)
      have z : (0 : Int) + (j : Nat) * 1 = (j : Nat) := by omega
      rw [z]
      refine ⟨_, rfl, ?_, fun _ => ?_⟩
      · simpa using edges_test h h2 hl n o last hd j hj2 e0 e1 e3 e4 e6 e7 e8 e10 e12 e13 e14 e15 e16 e17 e18
      · simp [m1])
  rw [this, List.nil_append]
  congr 1
  unfold rangeD
  rw [List.filter_map, List.map_map, List.map_map]
  have z : ∀ i : Nat, (0 : Int) + (i : Nat) * 1 = (i : Nat) := fun i => by omega
  simp only [Function.comp_def, z, Int.toNat_natCast]
def tl_hears : Ss := (.cons (.set 13 (.bin .FloorDiv (.var 11) (.var 5))) (.cons (.app 10 (.ife (.chn .LtE .Lt (.lit (.int 0)) (.var 13) (.bi "len" (.cons (.var 2) .nil))) (.ix (.var 2) (.var 13)) (.lit (.int 1)))) (.cons (.par [8, 9] [.inl (.bin .Add (.var 8) (.bin .Mult (.var 17) (.var 3))), .inl (.var 11)]) .nil)))
omit h h2 hl in
theorem w_hears_eq : w__law_hears_0 = (.cons (.set 11 (.bin .Add (.var 8) (.var 6))) (.cons (.set 12 (.lc (.bin .Mult (.var 5) (.var 19)) (.nm 19) (.r1 (.bi "len" (.cons (.var 2) .nil))) (.some (.con (.cons (.cmp .Eq (.ix (.var 2) (.var 19)) (.lit (.int 0))) (.cons (.dis (.cons (.cmp .Eq (.var 19) (.lit (.int 0))) (.cons (.cmp .Eq (.ix (.var 2) (.bin .Sub (.var 19) (.lit (.int 1)))) (.lit (.int 1))) .nil))) (.cons (.chn .Lt .LtE (.var 9) (.bin .Mult (.var 5) (.var 19)) (.var 11)) .nil))))) [("j", 19)])) (.cons (.ife (.bor 10 (.con (.cons (.cmp .NotEq (.var 12) (.lst .nil)) (.cons (.cmp .NotEq (.var 10) (.lst .nil)) (.cons (.cmp .Eq (.ix (.var 10) (.neg (.lit (.int 1)))) (.lit (.int 1))) .nil)))))
  (.cons (.set 8 (.bin .Add (.var 8) (.bi "max" (.cons (.bin .Sub (.lit (.int 0)) (.var 7)) (.cons (.bi "min" (.cons (.var 7) (.cons (.bin .Sub (.ix (.var 12) (.lit (.int 0))) (.var 8)) .nil))) .nil))))) (.cons (.set 11 (.bin .Add (.var 8) (.var 6))) .nil))
  .nil) tl_hears))) := rfl
theorem hears_tail (n : Nat) (o : Obs) (tm ck : D) (P p : Int) (hP : P.natAbs < 1000000) (bg last hd : Int) (fd : List Int) (hf : fd.length < 100000) (e4 e6 e7 e12 e13 e14 e15 e16 e18 e19 : Sl) :
    denSs (Fc n) Gl lawM tl_hears [.v tm, .v ck, .v (.tup (row.map .int)), .v (.int P), e4, .v (.int U), e6, e7, .v (.int bg), .v (.int last), .ol (fd.map .int), .v (.int hd), e12, e13, e14, e15, e16, .v (.int p), e18, e19] o =
      .nx [.v tm, .v ck, .v (.tup (row.map .int)), .v (.int P), e4, .v (.int U), e6, e7, .v (.int (bg + p * P)), .v (.int hd), .ol ((fd ++ [bitAt row (hd / U)]).map .int), .v (.int hd), e12, .v (.int (hd / U)), e14, e15, e16, .v (.int p), e18, e19] o := by
  have k1 : divOk U = true := divOk_b (by omega) (by omega)
  have k2 : hd.fdiv U = hd / U := Int.fdiv_eq_ediv_of_nonneg _ (by omega)
  have m1 : mulOk p P = true := mulOk_r (by omega)
  have hf2 : fd.length < 16777216 := by omega
  by_cases c1 : 0 ≤ hd / U
  · by_cases c2 : hd / U < row.length
    · have c3 := at_bit c1 c2
      simp [tl_hears, k1, k2, m1, hf2, c1, c2, c3]
    · have c3 : bitAt row (hd / U) = 1 := by unfold bitAt; rw [if_neg fun z => c2 z.2]
      simp [tl_hears, k1, k2, m1, hf2, c1, c2, c3]
  · have c3 : bitAt row (hd / U) = 1 := by unfold bitAt; rw [if_neg fun z => c1 z.1]
    simp [tl_hears, k1, k2, m1, hf2, c1, c3]
theorem law_body (hM : 0 < M) (n : Nat) (o : Obs) (ho : o.all noLO = true) (tm ck : D) (P p : Int) (hP : P.natAbs < 1000000) (hS : S = p * P) (s : Hs) (hf : s.fd.length < 100000) (e4 e11 e12 e13 e14 e15 e16 e18 e19 : Sl) :
    ∃ t11 t12 t13, denSs (Fc n) Gl lawM w__law_hears_0 [.v tm, .v ck, .v (.tup (row.map .int)), .v (.int P), e4, .v (.int U), .v (.int L), .v (.int M), .v (.int s.bg), .v (.int s.last), .ol (s.fd.map .int), e11, e12, e13, e14, e15, e16, .v (.int p), e18, e19] o =
      .nx [.v tm, .v ck, .v (.tup (row.map .int)), .v (.int P), e4, .v (.int U), .v (.int L), .v (.int M), .v (.int (st1 row U L M S s).bg), .v (.int (st1 row U L M S s).last), .ol ((st1 row U L M S s).fd.map .int), t11, t12, t13, e14, e15, e16, .v (.int p), e18, e19] o := by
  have hl2 : row.length < 16777216 := by omega
  have hf2 : s.fd.length < 16777216 := by omega
  have e5 := edges_ok h h2 hl n o s.last (s.bg + L)
  obtain ⟨es, hes⟩ : ∃ es, es = (List.range row.length).filter fun j => isEdge row j && (decide (s.last < U * j) && decide (U * j ≤ s.bg + L)) := ⟨_, rfl⟩
  rw [← hes] at e5
  have hfind : edgeF row U s.last (s.bg + L) = es.head? := by rw [hes, List.head?_filter]; rfl
  have hel : es.length < 16777216 := by
    have := List.length_filter_le (fun j => isEdge row j && (decide (s.last < U * j) && decide (U * j ≤ s.bg + L))) (List.range row.length)
    rw [← hes, List.length_range] at this; omega
  have n1 := ne_nil (es.map fun j : Nat => U * (j : Int)) (by simpa using hel)
  have n2 := ne_nil s.fd hf2
  have tl := hears_tail h h2 hl n o tm ck P p hP
  subst hS
  obtain ⟨bg, last, fd⟩ := s
  simp only at e5 hfind n1 n2 hf2
  simp only [st1, bgS, edS, hfind]
  rcases es with _ | ⟨j, es⟩
  · have ht := fun a b c => tl a b c fd (by simpa using hf)
    simp at e5 n1 ht
    simp [w_hears_eq, rangeD_len, hl2, e5, ho, n1, ht]
  · simp at e5 n1
    rcases List.eq_nil_or_concat fd with rfl | ⟨fs, x, rfl⟩
    · have ht := fun a b c => tl a b c [] (by simp)
      simp at n2 ht
      simp [w_hears_eq, rangeD_len, hl2, e5, ho, n1, n2, ht]
    · have hx := at_last (fs.map D.int) (.int x)
      have ht := fun a b c => tl a b c (fs ++ [x]) (by simpa using hf)
      simp at n2 ht
      by_cases c : x = 1
      · subst c
        have hmv : ∀ far, (if -M < if far < M then far else M then if far < M then far else M else -M) = mv M far := fun far => by unfold mv; simp
        simp [w_hears_eq, rangeD_len, hl2, e5, ho, n1, n2, hx, ht, hmv]
      · simp [w_hears_eq, rangeD_len, hl2, e5, ho, n1, n2, hx, ht, c]
end
/-- a timing and a clock -/
structure Tm where
  b : Int
  a : Int
  j : Int
  p : Int
  q : Int
structure Tm.Ok (t : Tm) : Prop where
  b1 : 1 ≤ t.b
  b2 : t.b ≤ 16
  a1 : 1 ≤ t.a
  a2 : t.a ≤ 16
  j1 : 1 ≤ t.j
  j2 : t.j ≤ 16
  p1 : 1 ≤ t.p
  p2 : t.p ≤ 1000000000
  q1 : 1 ≤ t.q
  q2 : t.q ≤ 1000000000
  g : Int.gcd t.p t.q = 1
theorem mul_bd {x y m n : Int} (h1 : 1 ≤ x) (h2 : x ≤ m) (h3 : 1 ≤ y) (h4 : y ≤ n) : 0 < x * y ∧ x * y ≤ m * n := ⟨Int.mul_pos (by omega) (by omega), Int.mul_le_mul h2 h4 (by omega) (by omega)⟩
theorem parts_ok (b a j : Int) (n : Nat) (o : Obs) : Fc (n + 1) "bit_parts" [.tup [.int b, .int a, .int j]] o = .ok (.int (1 + b + a)) o := by
  rw [r_bit_parts]; simp [m_bit_parts]
theorem heard_at_ok {b a j : Int} (h1 : 0 < 1 + b + a) (h2 : 1 + b + a < 1000000) (n : Nat) (o : Obs) : Fc (n + 3) "heard_at" [.tup [.int b, .int a, .int j]] o = .ok (rt (1 + b) (1 + b + a)) o := by
  rw [r_heard_at]
  have e := parts_ok b a j
  have e2 := ratio_ok (p := 1 + b) (q := 1 + b + a) n o h1 (by omega)
  simp [m_heard_at, e, e2]
theorem jump_of_ok {b a j : Int} (h1 : 0 < 1 + b + a) (h2 : 1 + b + a < 1000000) (n : Nat) (o : Obs) : Fc (n + 3) "jump_of" [.tup [.int b, .int a, .int j]] o = .ok (rt j (1 + b + a)) o := by
  rw [r_jump_of]
  have e := parts_ok b a j
  have e2 := ratio_ok (p := j) (q := 1 + b + a) n o h1 (by omega)
  simp [m_jump_of, e, e2]
def Tm.U (t : Tm) : Int := (1 + t.b + t.a) * t.q
def Tm.L (t : Tm) : Int := (1 + t.b) * t.p
def Tm.M (t : Tm) : Int := t.j * t.p
def Tm.S (t : Tm) : Int := t.p * (1 + t.b + t.a)
theorem Tm.Ok.bd {t : Tm} (k : t.Ok) : (0 < t.U ∧ t.U < 1099511627776) ∧ (0 < t.L ∧ t.L < 100000000000) ∧ (0 < t.M ∧ t.M < 100000000000) ∧ (0 < t.S ∧ t.S < 100000000000) := by
  obtain ⟨k1, k2, k3, k4, k5, k6, k7, k8, k9, k10, _⟩ := k
  have h1 := mul_bd (x := 1 + t.b + t.a) (y := t.q) (m := 33) (n := 1000000000) (by omega) (by omega) k9 k10
  have h2 := mul_bd (x := 1 + t.b) (y := t.p) (m := 17) (n := 1000000000) (by omega) (by omega) k7 k8
  have h3 := mul_bd (x := t.j) (y := t.p) (m := 16) (n := 1000000000) (by omega) (by omega) k7 k8
  have h4 := mul_bd (x := t.p) (y := 1 + t.b + t.a) (m := 1000000000) (n := 33) k7 k8 (by omega) (by omega)
  unfold Tm.U Tm.L Tm.M Tm.S
  omega
def Tm.tm (t : Tm) : D := .tup [.int t.b, .int t.a, .int t.j]
def Tm.ck (t : Tm) : D := .tup [.int t.p, .int t.q]
/-- what is heard -/
def heardP (t : Tm) (row : List Int) : List Int := (stN row t.U t.L t.M t.S row.length).fd
theorem heard_by_ok {t : Tm} (k : t.Ok) (row : List Int) (hl : row.length ≤ 50000) (n : Nat) (o : Obs) (ho : o.all noLO = true) : Fc (n + 6) "heard_by" [t.tm, t.ck, .tup (row.map .int)] o = .ok (.tup ((heardP t row).map .int)) o := by
  obtain ⟨⟨u1, u2⟩, ⟨l1, l2⟩, ⟨m1, m2⟩, ⟨s1, s2⟩⟩ := k.bd
  rw [r_heard_by]
  have ea := heard_at_ok (b := t.b) (a := t.a) (j := t.j) (by have := k.b1; have := k.a1; omega) (by have := k.b2; have := k.a2; omega)
  have ej := jump_of_ok (b := t.b) (a := t.a) (j := t.j) (by have := k.b1; have := k.a1; omega) (by have := k.b2; have := k.a2; omega)
  have et := fun A => times_ok (A := A) (U := 1 + t.b + t.a) (p := t.p) (q := t.q) (by have := k.b1; have := k.a1; omega) (by have := k.b2; have := k.a2; omega) (by have := k.q1; omega) (by have := k.q2; omega) (by have := k.p1; have := k.p2; omega)
  have hck : D.tup [.int t.p, .int t.q] = rt t.S t.U := by
    rw [← rt_of (by have := k.q1; omega) k.g]
    refine rt_eq (by have := k.q1; omega) u1 ?_
    unfold Tm.U Tm.S; ac_rfl
  have eL : rt ((1 + t.b) * t.p) ((1 + t.b + t.a) * t.q) = rt t.L t.U := rfl
  have eM : rt (t.j * t.p) ((1 + t.b + t.a) * t.q) = rt t.M t.U := rfl
  simp [m_heard_by, Tm.tm, Tm.ck, ea, ej, et, eL, eM]
  rw [hck, nought t.U u1]
  refine endR_seq (forD_wp (fun i env o' => o' = o ∧ ∃ s1 s2 s3, env = [.v t.tm, .v (rt t.S t.U), .v (.tup (row.map .int)), s1, .v (rt t.L t.U), .v (rt t.M t.U), .v (rt (stN row t.U t.L t.M t.S i).bg t.U), .v (rt (stN row t.U t.L t.M t.S i).last t.U), .ol ((stN row t.U t.L t.M t.S i).fd.map .int), s2, s3]) (i := 0) ⟨rfl, .un, .un, .un, rfl⟩ ?_ ?_)
  · rintro i d env o' hi ⟨rfl, x1, x2, x3, rfl⟩
    have hi2 : i < row.length := by
      have := (List.getElem?_eq_some_iff.mp hi).1
      simpa using this
    obtain ⟨a1, a2, a3, a4, a5⟩ := stN_abs (row := row) (U := t.U) l1 l2 m1 m2 s1 s2 (0 + i)
    refine ⟨_, rfl, ?_⟩
    obtain ⟨t2, t3, e⟩ := heard_body u1 u2 (show row.length < 100000 by omega) m1 n o' ho t.tm (S := t.S) (stN row t.U t.L t.M t.S (0 + i)) (by omega) (by omega) (by omega) (by omega) (by omega) l1 l2 (.v d) x2 x3
    simp only [List.set_cons_succ, List.set_cons_zero]
    rw [e]
    exact ⟨rfl, _, t2, t3, rfl⟩
  · rintro env o' ⟨rfl, x1, x2, x3, rfl⟩
    simp [heardP]
theorem hears_ok {t : Tm} (k : t.Ok) (row : List Int) (hl : row.length ≤ 50000) (n : Nat) (o : Obs) (ho : o.all noLO = true) : Fc (n + 1) "_law_hears" [t.tm, t.ck, .tup (row.map .int)] o = .ok (.tup ((heardP t row).map .int)) o := by
  obtain ⟨⟨u1, u2⟩, ⟨l1, l2⟩, ⟨m1, m2⟩, ⟨s1, s2⟩⟩ := k.bd
  rw [r__law_hears]
  have eU : t.q * (1 + t.b + t.a) = t.U := by unfold Tm.U; ac_rfl
  have eL : t.p * (1 + t.b) = t.L := by unfold Tm.L; ac_rfl
  have eM : t.p * t.j = t.M := by unfold Tm.M; ac_rfl
  have q1 : mulOk t.q (1 + t.b + t.a) = true := mulOk_l (by have := k.q1; have := k.q2; omega)
  have q2 : mulOk t.p (1 + t.b) = true := mulOk_l (by have := k.p1; have := k.p2; omega)
  have q3 : mulOk t.p t.j = true := mulOk_l (by have := k.p1; have := k.p2; omega)
  have hl2 : row.length < 16777216 := by omega
  simp [m__law_hears, Tm.tm, Tm.ck, q1, q2, q3, eU, eL, eM, hl2]
  refine endR_seq (forD_wp (fun i env o' => o' = o ∧ ∃ s4 s11 s12 s13 s19, env = [.v t.tm, .v t.ck, .v (.tup (row.map .int)), .v (.int (1 + t.b + t.a)), s4, .v (.int t.U), .v (.int t.L), .v (.int t.M), .v (.int (stN row t.U t.L t.M t.S i).bg), .v (.int (stN row t.U t.L t.M t.S i).last), .ol ((stN row t.U t.L t.M t.S i).fd.map .int), s11, s12, s13, .v (.int t.b), .v (.int t.a), .v (.int t.j), .v (.int t.p), .v (.int t.q), s19]) (i := 0) ⟨rfl, .un, .un, .un, .un, .un, rfl⟩ ?_ ?_)
  · rintro i d env o' hi ⟨rfl, x1, x2, x3, x4, x5, rfl⟩
    have hi2 : i < row.length := by
      have := (List.getElem?_eq_some_iff.mp hi).1
      simpa [rangeD_len] using this
    obtain ⟨a1, a2, a3, a4, a5⟩ := stN_abs (row := row) (U := t.U) l1 l2 m1 m2 s1 s2 (0 + i)
    refine ⟨_, rfl, ?_⟩
    obtain ⟨t1, t2, t3, e⟩ := law_body u1 u2 (show row.length < 100000 by omega) m1 n o' ho t.tm t.ck (1 + t.b + t.a) t.p (by have := k.b1; have := k.b2; have := k.a1; have := k.a2; omega) (S := t.S) (L := t.L) rfl (stN row t.U t.L t.M t.S (0 + i)) (by omega) (.v d) x2 x3 x4 (.v (.int t.b)) (.v (.int t.a)) (.v (.int t.j)) (.v (.int t.q)) x5
    simp only [List.set_cons_succ, List.set_cons_zero]
    rw [e]
    exact ⟨rfl, _, t1, t2, t3, _, rfl⟩
  · rintro env o' ⟨rfl, x1, x2, x3, x4, x5, rfl⟩
    simp [heardP, rangeD_len]
/-! ### _law_low, _law_clock -/
theorem low_step {a b : Nat} (h1 : 0 < b) (hb : b < 18446744073709551616) : divOk (b : Int) = true ∧ mulOk ((a : Int) / b) b = true ∧ (a : Int).fdiv b = a / b ∧ (a : Int) - a / b * b = (a % b : Nat) := by
  refine ⟨divOk_b (by omega) (by omega), mulOk_r (by omega), Int.fdiv_eq_ediv_of_nonneg _ (by omega), ?_⟩
  have := Int.emod_def a b
  rw [Int.mul_comm (a / b : Int) b, ← this]; rfl
theorem low_ok {p q : Int} (h : 0 < q) (h2 : q < 18446744073709551616) (n : Nat) (o : Obs) : Fc (n + 1) "_law_low" [.int p, .int q] o = .ok (rt p q) o := by
  rw [r__law_low, rt_def]
  simp [m__law_low]
  have hg : 0 < Int.gcd p q := Int.gcd_pos_of_ne_zero_right _ (by omega)
  have hle : (Int.gcd p q : Nat) ≤ q.natAbs := Nat.le_of_dvd (by omega) (Int.gcd_dvd_natAbs_right ..)
  refine endR_seq (whileD_wp (fun k env o' => o' = o ∧ ∃ a b : Nat, env = [.v (.int p), .v (.int q), .v (.int a), .v (.int b)] ∧ Nat.gcd a b = Int.gcd p q ∧ Eu k a b ∧ b < 18446744073709551616) ?_ (k := 401) (by decide) ⟨rfl, p.natAbs, q.natAbs, by simp; omega, rfl, eu_first _ (by omega), by omega⟩)
  rintro k env o' ⟨rfl, a, b, rfl, hgc, hb, hb2⟩
  by_cases c : b = 0
  · subst c
    simp at hgc
    subst hgc
    have k1 : divOk (Int.gcd p q : Nat) = true := divOk_b (by omega) (by omega)
    have k2 : ∀ x : Int, x.fdiv (Int.gcd p q : Nat) = x / (Int.gcd p q : Nat) := fun x => Int.fdiv_eq_ediv_of_nonneg _ (by omega)
    simp [k1, k2]
  · have h1 : 0 < b := by omega
    have h3 := Nat.mod_lt a h1
    obtain ⟨k1, k2, k3, k4⟩ := low_step (a := a) h1 hb2
    obtain ⟨k', hk, he⟩ := eu_step hb (by omega)
    simp [h1]
    refine ⟨k', hk, ?_⟩
    simp [w__law_low_0, k1, k2, k3, k4]
    exact ⟨b, a % b, ⟨rfl, by simp⟩, by rw [Nat.gcd_comm, ← Nat.gcd_rec, Nat.gcd_comm]; exact hgc, he, by omega⟩
theorem clock_ok (s : Tp) (n : Nat) (hk : 0 ≤ s.k) : ∃ p q s', Fc (n + 3) "_law_clock" [.obj 1] (tp s []) = .ok (.tup [.int p, .int q]) (tp s' []) ∧ 1 ≤ p ∧ p ≤ 2000 ∧ 1 ≤ q ∧ q ≤ 1000 ∧ Int.gcd p q = 1 ∧ 10 * (p - q) ≤ q ∧ 10 * (q - p) ≤ q ∧ 0 ≤ s'.k := by
  obtain ⟨d, s1, e1, d1, d2, k1⟩ := take_ok s [] n hk (many := 3) (by decide) (by decide)
  obtain ⟨q, hq, hq2⟩ : ∃ q : Int, atI [D.int 100, .int 1000, .int 37] d = some (.int q) ∧ (q = 100 ∨ q = 1000 ∨ q = 37) := by
    have : d = 0 ∨ d = 1 ∨ d = 2 := by omega
    rcases this with rfl | rfl | rfl
    · exact ⟨100, rfl, .inl rfl⟩
    · exact ⟨1000, rfl, .inr (.inl rfl)⟩
    · exact ⟨37, rfl, .inr (.inr rfl)⟩
  have f1 : q.fdiv 10 = q / 10 := Int.fdiv_eq_ediv_of_nonneg _ (by decide)
  obtain ⟨d', s2, e2, d1', d2', k2⟩ := take_ok s1 [] n k1 (many := 2 * (q / 10) + 1) (by omega) (by omega)
  have m1 : mulOk 2 (q / 10) = true := mulOk_r (by omega)
  obtain ⟨p, hp⟩ : ∃ p, p = q + d' - q / 10 := ⟨_, rfl⟩
  have p1 : 1 ≤ p := by omega
  have p2 : p ≤ 2000 := by omega
  have q1 : 1 ≤ q := by omega
  have q2 : q ≤ 1000 := by omega
  obtain ⟨a, b, g, r1, hb, hl, hg, g1, g2, g3⟩ := rt_parts p (U := q) (by omega)
  have a1 : 1 ≤ a := by
    have : 0 < a := by
      apply Int.pos_of_mul_pos_left (b := g)
      · rw [← g1]; omega
      · omega
    omega
  have a2 : a ≤ p := by
    rw [g1]
    have := Int.mul_le_mul_of_nonneg_left (show 1 ≤ g by omega) (show 0 ≤ a by omega)
    omega
  have n1 : 10 * (a - b) ≤ b := by
    have : 10 * (a - b) * g ≤ b * g := by
      rw [show 10 * (a - b) * g = 10 * (a * g - b * g) from by rw [Int.mul_assoc, Int.sub_mul], ← g1, ← g2]; omega
    exact Int.le_of_mul_le_mul_right this hg
  have n2 : 10 * (b - a) ≤ b := by
    have : 10 * (b - a) * g ≤ b * g := by
      rw [show 10 * (b - a) * g = 10 * (b * g - a * g) from by rw [Int.mul_assoc, Int.sub_mul], ← g1, ← g2]; omega
    exact Int.le_of_mul_le_mul_right this hg
  refine ⟨a, b, s2, ?_, a1, by omega, by omega, by omega, g3, n1, n2, k2⟩
  rw [r__law_clock, ← r1, rt_def]
  simp [m__law_clock, e1, hq, f1, m1, e2]
  rw [← hp]
  have hg : 0 < Int.gcd p q := Int.gcd_pos_of_ne_zero_right _ (by omega)
  have hle : (Int.gcd p q : Nat) ≤ q.natAbs := Nat.le_of_dvd (by omega) (Int.gcd_dvd_natAbs_right ..)
  refine endR_seq (whileD_wp (fun k env o' => o' = tp s2 [] ∧ ∃ a b : Nat, env = [.v (.obj 1), .v (.int q), .v (.int p), .v (.int a), .v (.int b)] ∧ Nat.gcd a b = Int.gcd p q ∧ Eu k a b ∧ b < 18446744073709551616) ?_ (k := 401) (by decide) ⟨rfl, p.natAbs, q.natAbs, by simp; omega, rfl, eu_first _ (by omega), by omega⟩)
  rintro k env o' ⟨rfl, a, b, rfl, hgc, hb, hb2⟩
  by_cases c : b = 0
  · subst c
    simp at hgc
    subst hgc
    have k1 : divOk (Int.gcd p q : Nat) = true := divOk_s (by omega) (by omega)
    have k2 : ∀ x : Int, x.fdiv (Int.gcd p q : Nat) = x / (Int.gcd p q : Nat) := fun x => Int.fdiv_eq_ediv_of_nonneg _ (by omega)
    simp [k1, k2]
  · have h1 : 0 < b := by omega
    have h3 := Nat.mod_lt a h1
    obtain ⟨k1, k2, k3, k4⟩ := low_step (a := a) h1 hb2
    obtain ⟨k', hk, he⟩ := eu_step hb (by omega)
    simp [h1]
    refine ⟨k', hk, ?_⟩
    simp [w__law_clock_0, k1, k2, k3, k4]
    exact ⟨b, a % b, ⟨rfl, by simp⟩, by rw [Nat.gcd_comm, ← Nat.gcd_rec, Nat.gcd_comm]; exact hgc, he, by omega⟩
theorem timing_ok (s : Tp) (n : Nat) (hk : 0 ≤ s.k) : ∃ b a j s', Fc (n + 3) "_law_timing" [.obj 1] (tp s []) = .ok (.tup [.int b, .int a, .int j]) (tp s' []) ∧ 1 ≤ b ∧ b ≤ 12 ∧ 1 ≤ a ∧ a ≤ 12 ∧ 1 ≤ j ∧ j ≤ 12 ∧ j ≤ a ∧ j ≤ b ∧ 0 ≤ s'.k := by
  obtain ⟨d, s1, e1, d1, d2, k1⟩ := take_ok s [] n hk (many := 12) (by decide) (by decide)
  obtain ⟨d', s2, e2, d1', d2', k2⟩ := take_ok s1 [] n k1 (many := 12) (by decide) (by decide)
  obtain ⟨m, hm⟩ : ∃ m : Int, m = if 1 + d' < 1 + d then 1 + d' else 1 + d := ⟨_, rfl⟩
  have m1 : 1 ≤ m := by rw [hm]; split <;> omega
  have m2 : m ≤ 1 + d' := by rw [hm]; split <;> omega
  have m3 : m ≤ 1 + d := by rw [hm]; split <;> omega
  obtain ⟨d'', s3, e3, d1'', d2'', k3⟩ := take_ok s2 [] n k2 (many := m) m1 (by omega)
  rw [hm] at e3
  refine ⟨1 + d, 1 + d', 1 + d'', s3, ?_, by omega, by omega, by omega, by omega, by omega, by omega, by omega, by omega, k3⟩
  rw [r__law_timing]
  simp at e3
  simp [m__law_timing, e1, e2, e3]
end Mp

set_option Elab.async false
set_option linter.all false
set_option maxRecDepth 100000
namespace Mp
open PySem PySem.Spec PyProof.Rows L2
theorem mul_one_lst (x : D) (k : Int) (h1 : 0 ≤ k) (h2 : k ≤ 100) : mulD (.lst [x]) (.int k) = some (.lst (List.replicate k.toNat x)) := by
  show (if _ then _ else _) = _
  rw [if_pos]
  · congr 2
    have : ∀ m : Nat, (List.replicate m [x]).flatten = List.replicate m x := fun m => by
      induction m with
      | zero => rfl
      | succ m ih => rw [List.replicate_succ, List.flatten_cons, ih, List.replicate_succ]; rfl
    exact this _
  · rw [Bool.and_eq_true]
    exact ⟨decide_eq_true ⟨by omega, by omega⟩, decide_eq_true (by simp; omega)⟩
theorem row6_app {fl : List Int} {bit : Int} (h : Row6 fl) (hl : fl = [] ∨ fl.getLast? = some (1 - bit)) {m : Nat} (hm : m ≤ 5) : Row6 (fl ++ List.replicate m bit) := by
  intro k hk
  rw [List.length_append, List.length_replicate] at hk
  by_cases c : k + 5 < fl.length
  · obtain ⟨t, ht, hn⟩ := h k c
    exact ⟨t, ht, by rw [List.getElem?_append_left (by omega), List.getElem?_append_left (by omega)]; exact hn⟩
  · rcases hl with rfl | hl
    · simp at hk; omega
    · have hne : 0 < fl.length := by
        cases fl with
        | nil => simp at hl
        | cons => simp
      refine ⟨fl.length - 1 - k, by omega, ?_⟩
      rw [show k + (fl.length - 1 - k) = fl.length - 1 from by omega, show fl.length - 1 + 1 = fl.length from by omega, List.getElem?_append_left (by omega), List.getElem?_append_right (by omega), ← List.getLast?_eq_getElem?, hl, Nat.sub_self, List.getElem?_replicate, if_pos (by omega)]
      intro e
      have := Option.some.inj e
      have e2 : 1 - bit = bit := this
      omega
theorem row6_take {fl : List Int} (h : Row6 fl) (m : Nat) : Row6 (fl.take m) := by
  intro k hk
  rw [List.length_take] at hk
  obtain ⟨t, ht, hn⟩ := h k (by omega)
  exact ⟨t, ht, by rw [List.getElem?_take, List.getElem?_take, if_pos (by omega), if_pos (by omega)]; exact hn⟩
/-- a row as the law makes them -/
structure RowFl (fl : List Int) (bit : Int) : Prop where
  bits : ∀ x ∈ fl, x = 0 ∨ x = 1
  b01 : bit = 0 ∨ bit = 1
  six : Row6 fl
  head : fl = [] ∨ fl[0]? = some 0
  nil : fl = [] → bit = 0
  last : fl = [] ∨ fl.getLast? = some (1 - bit)
theorem RowFl.next {fl : List Int} {bit : Int} (h : RowFl fl bit) {m : Nat} (h1 : 1 ≤ m) (h5 : m ≤ 5) : RowFl (fl ++ List.replicate m bit) (1 - bit) := by
  obtain ⟨a, b, c, d, e, f⟩ := h
  refine ⟨fun x hx => ?_, by omega, row6_app c f h5, .inr ?_, fun h => ?_, .inr ?_⟩
  · rcases List.mem_append.mp hx with h | h
    · exact a x h
    · rw [(List.mem_replicate.mp h).2]; exact b
  · by_cases z : fl = []
    · subst z
      rw [e rfl, List.nil_append, List.getElem?_replicate, if_pos (by omega)]
    · rcases d with d | d
      · exact absurd d z
      · rw [List.getElem?_append_left (List.getElem?_eq_some_iff.mp d).1]; exact d
  · have := congrArg List.length h
    simp at this; omega
  · rw [List.getLast?_append, List.getLast?_replicate, if_neg (by omega)]
    show some bit = _
    congr 1; omega
theorem row_ok (s : Tp) (n : Nat) (hk : 0 ≤ s.k) (many : Int) (h1 : 1 ≤ many) (h2 : many ≤ 100) : ∃ (row : List Int) (s' : Tp), Fc (n + 3) "_law_row" [.obj 1, .int many] (tp s []) = .ok (.tup (row.map .int)) (tp s' []) ∧ row.length ≤ 100 ∧ row[0]? = some 0 ∧ (∀ x ∈ row, x = 0 ∨ x = 1) ∧ Row6 row ∧ 0 ≤ s'.k := by
  have : (Fc (n + 3) "_law_row" [.obj 1, .int many] (tp s [])).wp fun d o => ∃ (row : List Int) (s' : Tp), d = .tup (row.map .int) ∧ o = tp s' [] ∧ row.length ≤ 100 ∧ row[0]? = some 0 ∧ (∀ x ∈ row, x = 0 ∨ x = 1) ∧ Row6 row ∧ 0 ≤ s'.k := by
    rw [r__law_row]
    simp [m__law_row]
    refine endR_wp (RS.wp_seq (whileD_wp (fun k env o' => ∃ (fl : List Int) (bit : Int) (s' : Tp), env = [.v (.obj 1), .v (.int many), .v (.lst (fl.map .int)), .v (.int bit)] ∧ o' = tp s' [] ∧ 0 ≤ s'.k ∧ fl.length ≤ many + 5 ∧ many ≤ fl.length + k ∧ RowFl fl bit) ?_ (k := many.toNat) (by show many.toNat < 5000; omega) ⟨[], 0, s, rfl, rfl, hk, by simp; omega, by simp; omega, ⟨by simp, .inl rfl, fun k hk => by simp at hk, .inl rfl, fun _ => rfl, .inl rfl⟩⟩))
    rintro k env o' ⟨fl, bit, s', rfl, rfl, hk', hl, hm, hr⟩
    by_cases c : (fl.length : Int) < many
    · simp [c]
      refine ⟨k - 1, by omega, ?_⟩
      obtain ⟨d, s1, e1, d1, d2, k1⟩ := take_ok s' [] n hk' (many := 5) (by decide) (by decide)
      obtain ⟨d', s2, e2, d1', d2', k2⟩ := take_ok s1 [] n k1 (many := 4) (by decide) (by decide)
      obtain ⟨m, hm1, hm2, hm3⟩ : ∃ m : Int, atI [D.int 1, .int 5, .int 5, .int (1 + d)] d' = some (.int m) ∧ 1 ≤ m ∧ m ≤ 5 := by
        have : d' = 0 ∨ d' = 1 ∨ d' = 2 ∨ d' = 3 := by omega
        rcases this with rfl | rfl | rfl | rfl
        · exact ⟨1, rfl, by omega, by omega⟩
        · exact ⟨5, rfl, by omega, by omega⟩
        · exact ⟨5, rfl, by omega, by omega⟩
        · exact ⟨1 + d, rfl, by omega, by omega⟩
      have e3 := mul_one_lst (.int bit) m (by omega) (by omega)
      have l1 : fl.length + m.toNat ≤ 16777216 := by omega
      simp [w__law_row_0, e1, e2, hm1, e3, l1]
      refine ⟨fl ++ List.replicate m.toNat bit, 1 - bit, ⟨by simp, rfl⟩, s2, rfl, k2, by simp; omega, by simp; omega, hr.next (by omega) (by omega)⟩
    · simp [c, cut_to (show 0 ≤ many by omega)]
      refine ⟨fl.take many.toNat, by simp, s', rfl, by simp; omega, ?_, fun x hx => hr.bits x (List.mem_of_mem_take hx), row6_take hr.six _, hk'⟩
      rcases hr.head with h | h
      · subst h; simp at c; omega
      · rw [List.getElem?_take, if_pos (by omega)]; exact h
  obtain ⟨d, o, e, row, s', rfl, rfl, h3, h4⟩ := R.wp_eq this
  exact ⟨row, s', e, h3, h4⟩
/-! ### does a clock hold -/
def Tm.P (t : Tm) : Int := 1 + t.b + t.a
theorem S_U (t : Tm) : t.S - t.U = (t.p - t.q) * t.P := by
  show t.p * (1 + t.b + t.a) - (1 + t.b + t.a) * t.q = (t.p - t.q) * (1 + t.b + t.a)
  rw [Int.sub_mul, Int.mul_comm t.q]
theorem one_rt : D.tup [.int 1, .int 1] = rt 1 1 := (rt_of (by decide) (by decide)).symm
theorem nought1 : D.tup [.int 0, .int 1] = rt 0 1 := (rt_of (by decide) (by decide)).symm
theorem nine_rt : D.tup [.int 9, .int 1] = rt 9 1 := (rt_of (by decide) (by decide)).symm
theorem ten_rt : D.tup [.int 10, .int 1] = rt 10 1 := (rt_of (by decide) (by decide)).symm
theorem not_above_ok {U V : Int} (h : 0 < U) (h2 : U < 1099511627776) (h' : 0 < V) (h2' : V < 1099511627776) (A B : Int) (n : Nat) (o : Obs) : Fc (n + 2) "not_above" [rt A U, rt B V] o = .ok (.bl (decide (A * V ≤ B * U))) o := by
  rw [r_not_above]
  have e := below2 h' h2' h h2 B A n o
  have : (!decide (B * U < A * V)) = decide (A * V ≤ B * U) := by
    by_cases c : B * U < A * V
    · rw [decide_eq_true c, decide_eq_false (by omega)]; rfl
    · rw [decide_eq_false c, decide_eq_true (by omega)]; rfl
  simp [m_not_above, e, this]
theorem pq_bd {p q m n : Int} (h1 : 0 < p) (h2 : p ≤ m) (h3 : 0 < q) (h4 : q ≤ n) : 0 < p * q ∧ p * q ≤ m * n := mul_bd (by omega) h2 (by omega) h4
theorem scale_le {a b k : Int} (hk : 0 < k) : a * k ≤ b * k ↔ a ≤ b := ⟨fun h => Int.le_of_mul_le_mul_right h hk, fun h => Int.mul_le_mul_of_nonneg_right h (by omega)⟩
section
variable {t : Tm} (k : t.Ok)
include k
theorem P_bd : 0 < t.P ∧ t.P ≤ 33 := by
  obtain ⟨k1, k2, k3, k4, k5, k6, k7, k8, k9, k10, _⟩ := k
  unfold Tm.P
  omega
theorem fineB_eq : fineB t.U t.L t.M t.S = if t.q ≤ t.p then decide ((t.p - t.q) * (9 * t.P + (1 + t.b)) < t.a * t.q) && decide (10 * (t.p - t.q) * t.P ≤ t.j * t.p) else decide ((t.q - t.p) * (9 * t.P + (1 + t.b)) ≤ (1 + t.b) * t.q) && decide (10 * (t.q - t.p) * t.P ≤ t.j * t.p) := by
  obtain ⟨p0, p1⟩ := P_bd k
  have su := S_U t
  have us : t.U - t.S = (t.q - t.p) * t.P := by
    have : (t.q - t.p) * t.P = -((t.p - t.q) * t.P) := by rw [← Int.neg_mul]; congr 1; omega
    omega
  have c : t.U ≤ t.S ↔ t.q ≤ t.p := by
    constructor
    · intro h
      have : 0 ≤ (t.p - t.q) * t.P := by omega
      have := Int.nonneg_of_mul_nonneg_left this p0
      omega
    · intro h
      have := Int.mul_nonneg (show 0 ≤ t.p - t.q by omega) (show 0 ≤ t.P by omega)
      omega
  have eU : t.U = (1 + t.b) * t.q + t.a * t.q := by unfold Tm.U; rw [Int.add_mul]
  have eL : t.L = (1 + t.b) * t.p := rfl
  have ex : (t.p - t.q) * (9 * t.P + (1 + t.b)) = 9 * ((t.p - t.q) * t.P) + (1 + t.b) * t.p - (1 + t.b) * t.q := by
    rw [Int.mul_add, Int.sub_mul t.p t.q (1 + t.b), Int.mul_comm t.p (1 + t.b), Int.mul_comm t.q (1 + t.b), show (t.p - t.q) * (9 * t.P) = 9 * ((t.p - t.q) * t.P) from by ac_rfl]
    omega
  have ex2 : (t.q - t.p) * (9 * t.P + (1 + t.b)) = 9 * ((t.q - t.p) * t.P) + (1 + t.b) * t.q - (1 + t.b) * t.p := by
    rw [Int.mul_add, Int.sub_mul t.q t.p (1 + t.b), Int.mul_comm t.p (1 + t.b), Int.mul_comm t.q (1 + t.b), show (t.q - t.p) * (9 * t.P) = 9 * ((t.q - t.p) * t.P) from by ac_rfl]
    omega
  have a1 : 10 * (t.p - t.q) * t.P = 10 * ((t.p - t.q) * t.P) := Int.mul_assoc ..
  have a2 : 10 * (t.q - t.p) * t.P = 10 * ((t.q - t.p) * t.P) := Int.mul_assoc ..
  have eM : t.M = t.j * t.p := rfl
  unfold fineB
  by_cases h : t.q ≤ t.p
  · rw [if_pos (c.mpr h), if_pos h, Bool.and_comm, su, a1, ← eM, ex, eL, eU]
    congr 1
    rw [decide_eq_decide]; omega
  · rw [if_neg (fun z => h (c.mp z)), if_neg h, Bool.and_comm, us, a2, ← eM, ex2, eL]
    congr 1
    rw [decide_eq_decide]; omega
theorem ck_rt : t.ck = rt t.p t.q := (rt_of (by have := k.q1; omega) k.g).symm
theorem holds_ok (n : Nat) (o : Obs) : Fc (n + 4) "holds" [t.tm, t.ck] o = .ok (.bl (fineB t.U t.L t.M t.S)) o := by
  obtain ⟨p0, p1⟩ := P_bd k
  have k' := k
  obtain ⟨k1, k2, k3, k4, k5, k6, k7, k8, k9, k10, kg⟩ := k'
  have eat := heard_at_ok (b := t.b) (a := t.a) (j := t.j) (by omega) (by omega) n o
  have ejm := jump_of_ok (b := t.b) (a := t.a) (j := t.j) (by omega) (by omega) n o
  rw [show 1 + t.b + t.a = t.P from rfl] at eat ejm
  have hq : 0 < t.q := by omega
  have hq2 : t.q < 1099511627776 := by omega
  have hP2 : t.P < 1099511627776 := by omega
  have qP := pq_bd hq k10 p0 p1
  have Pq := pq_bd p0 p1 hq k10
  have e1 := rless2 hq hq2 (V := 1) (by decide) (by decide) t.p 1 n o
  rw [Int.mul_one, Int.mul_one, Int.one_mul] at e1
  have e2 := rsum2 (U := 1) (V := t.P) (by decide) (by decide) p0 hP2 9 (1 + t.b) n o
  rw [Int.one_mul, Int.mul_one] at e2
  have b9 : (9 * t.P + (1 + t.b)).natAbs < 18446744073709551616 := by omega
  have e3 := rtimes2 hq hq2 p0 hP2 (t.p - t.q) (9 * t.P + (1 + t.b)) n o b9
  have e4 := rtimes2 hq hq2 (V := 1) (by decide) (by decide) (t.p - t.q) 10 n o (by decide)
  rw [Int.mul_one] at e4
  have e5 := below2 hq hq2 (V := 1) (by decide) (by decide) (t.p - t.q) 0 (n + 2) o
  rw [Int.mul_one, Int.zero_mul] at e5
  have e6 := rless2 (U := 1) (V := t.P) (by decide) (by decide) p0 hP2 1 (1 + t.b) n o
  rw [Int.one_mul, Int.mul_one, show t.P - (1 + t.b) = t.a from by unfold Tm.P; omega] at e6
  have e7 := below2 qP.1 (by omega) p0 hP2 ((t.p - t.q) * (9 * t.P + (1 + t.b))) t.a (n + 2) o
  have e8 := times_ok (A := t.j) p0 hP2 hq hq2 (p := t.p) (by omega) n o
  have e9 := not_above_ok hq hq2 Pq.1 (by omega) ((t.p - t.q) * 10) (t.j * t.p) (n + 1) o
  have e10 := rless2 (U := 1) (V := t.q * t.P) (by decide) (by decide) qP.1 (by omega) 0 ((t.p - t.q) * (9 * t.P + (1 + t.b))) n o
  rw [Int.zero_mul, Int.mul_one, Int.one_mul] at e10
  have e11 := not_above_ok qP.1 (by omega) p0 hP2 (0 - (t.p - t.q) * (9 * t.P + (1 + t.b))) (1 + t.b) (n + 1) o
  have e12 := rless2 (U := 1) (V := t.q) (by decide) (by decide) hq hq2 0 ((t.p - t.q) * 10) n o
  rw [Int.zero_mul, Int.mul_one, Int.one_mul] at e12
  have e13 := not_above_ok hq hq2 Pq.1 (by omega) (0 - (t.p - t.q) * 10) (t.j * t.p) (n + 1) o
  -- what they say
  have c7 : (t.p - t.q) * (9 * t.P + (1 + t.b)) * t.P < t.a * (t.q * t.P) ↔ (t.p - t.q) * (9 * t.P + (1 + t.b)) < t.a * t.q := by
    rw [← Int.mul_assoc, Int.mul_lt_mul_right p0]
  have c9 : (t.p - t.q) * 10 * (t.P * t.q) ≤ t.j * t.p * t.q ↔ 10 * (t.p - t.q) * t.P ≤ t.j * t.p := by
    rw [← Int.mul_assoc, scale_le hq, Int.mul_comm (t.p - t.q) 10]
  have n1 : 0 - (t.p - t.q) * (9 * t.P + (1 + t.b)) = (t.q - t.p) * (9 * t.P + (1 + t.b)) := by
    rw [Int.zero_sub, ← Int.neg_mul]; congr 1; omega
  have n2 : 0 - (t.p - t.q) * 10 = 10 * (t.q - t.p) := by omega
  have c11 : (t.q - t.p) * (9 * t.P + (1 + t.b)) * t.P ≤ (1 + t.b) * (t.q * t.P) ↔ (t.q - t.p) * (9 * t.P + (1 + t.b)) ≤ (1 + t.b) * t.q := by
    rw [← Int.mul_assoc, scale_le p0]
  have c13 : 10 * (t.q - t.p) * (t.P * t.q) ≤ t.j * t.p * t.q ↔ 10 * (t.q - t.p) * t.P ≤ t.j * t.p := by
    rw [← Int.mul_assoc, scale_le hq]
  rw [n1] at e10 e11
  rw [n2] at e12 e13
  simp only [c7] at e7
  simp only [c9] at e9
  simp only [c11] at e11
  simp only [c13] at e13
  rw [fineB_eq k, r_holds]
  have hck := ck_rt k
  have ht : t.tm = .tup [.int t.b, .int t.a, .int t.j] := rfl
  rw [← ht] at eat ejm
  rw [show D.tup [.int t.p, .int t.q] = rt t.p t.q from hck] at e8
  rw [hck]
  by_cases c : t.q ≤ t.p
  · rw [if_pos c]
    rw [decide_eq_false (by omega)] at e5
    by_cases cc : (t.p - t.q) * (9 * t.P + (1 + t.b)) < t.a * t.q
    · simp [m_holds, one_rt, nought1, nine_rt, ten_rt, eat, ejm, e1, e2, e3, e4, e5, e6, e7, e8, e9, cc]
    · simp [m_holds, one_rt, nought1, nine_rt, ten_rt, eat, ejm, e1, e2, e3, e4, e5, e6, e7, e8, e9, cc]
  · rw [if_neg c]
    rw [decide_eq_true (by omega)] at e5
    by_cases cc : (t.q - t.p) * (9 * t.P + (1 + t.b)) ≤ (1 + t.b) * t.q
    · simp [m_holds, one_rt, nought1, nine_rt, ten_rt, eat, ejm, e1, e2, e3, e4, e5, e8, e10, e11, e12, e13, cc]
    · simp [m_holds, one_rt, nought1, nine_rt, ten_rt, eat, ejm, e1, e2, e3, e4, e5, e8, e10, e11, e12, e13, cc]
end
end Mp

set_option Elab.async false
set_option linter.all false
set_option maxRecDepth 100000
namespace Mp
open PySem PySem.Spec PyProof.Rows L2
theorem abs_mul (x : Int) {P : Int} (h : 0 ≤ P) : ((x * P).natAbs : Int) = (x.natAbs : Int) * P := by rw [Int.natAbs_mul, Int.natCast_mul]; congr 1; omega
theorem law_holds_ok {t : Tm} (k : t.Ok) (n : Nat) (o : Obs) : Fc (n + 1) "_law_holds" [t.tm, t.ck] o = .ok (.bl (fineB t.U t.L t.M t.S)) o := by
  obtain ⟨p0, p1⟩ := P_bd k
  have su := S_U t
  obtain ⟨k1, k2, k3, k4, k5, k6, k7, k8, k9, k10, kg⟩ := k
  have us : t.U - t.S = (t.q - t.p) * t.P := by
    have : (t.q - t.p) * t.P = -((t.p - t.q) * t.P) := by rw [← Int.neg_mul]; congr 1; omega
    omega
  have c : t.U ≤ t.S ↔ t.q ≤ t.p := by
    constructor
    · intro h
      have : 0 ≤ (t.p - t.q) * t.P := by omega
      have := Int.nonneg_of_mul_nonneg_left this p0
      omega
    · intro h
      have := Int.mul_nonneg (show 0 ≤ t.p - t.q by omega) (show 0 ≤ t.P by omega)
      omega
  have ht : D.tup [.int t.b, .int t.a, .int t.j] = t.tm := rfl
  have eU : t.q * t.P = t.U := Int.mul_comm ..
  have eL : t.p * (1 + t.b) = t.L := Int.mul_comm ..
  have eM : t.j * t.p = t.M := rfl
  have m1 : ∀ x, mulOk x t.P = true := fun x => mulOk_r (by omega)
  have m2 : ∀ x, mulOk 10 x = true := fun x => mulOk_l (by decide)
  have m3 : ∀ x, mulOk 9 x = true := fun x => mulOk_l (by decide)
  have m4 : mulOk t.j t.p = true := mulOk_l (by omega)
  have m5 : mulOk t.p (1 + t.b) = true := mulOk_l (by omega)
  have hP : 1 + t.b + t.a = t.P := rfl
  rw [r__law_holds]
  unfold fineB
  by_cases h : t.q ≤ t.p
  · rw [if_pos (c.mpr h)]
    have a1 : 10 * ((t.p - t.q).natAbs : Int) * t.P = 10 * (t.S - t.U) := by
      rw [su, Int.mul_assoc]; congr 2; omega
    have a2 : 9 * (t.p - t.q) * t.P = 9 * (t.S - t.U) := by rw [su, Int.mul_assoc]
    by_cases cc : 10 * (t.S - t.U) ≤ t.M
    · simp [m__law_holds, Tm.tm, Tm.ck, hP, m1, m2, m3, m4, m5, eU, eL, eM, a1, a2, h, cc]
    · simp [m__law_holds, Tm.tm, Tm.ck, hP, m1, m2, m3, m4, m5, eU, eL, eM, a1, a2, h, cc]
  · rw [if_neg (fun z => h (c.mp z))]
    have a1 : 10 * ((t.p - t.q).natAbs : Int) * t.P = 10 * (t.U - t.S) := by
      rw [us, Int.mul_assoc]; congr 2; omega
    have a2 : 9 * (t.q - t.p) * t.P = 9 * (t.U - t.S) := by rw [us, Int.mul_assoc]
    by_cases cc : 10 * (t.U - t.S) ≤ t.M
    · simp [m__law_holds, Tm.tm, Tm.ck, hP, m1, m2, m3, m4, m5, eU, eL, eM, a1, a2, h, cc]
    · simp [m__law_holds, Tm.tm, Tm.ck, hP, m1, m2, m3, m4, m5, eU, eL, eM, a1, a2, h, cc]
/-! ### the range of clocks -/
theorem over2 {U V : Int} (h : 0 < U) (h2 : U < 1099511627776) (h' : 0 < V) (h2' : V < 1099511627776) (A B : Int) (hB : 0 < B) (hB2 : B < 1099511627776) (n : Nat) (o : Obs) : Fc (n + 3) "over" [rt A U, rt B V] o = .ok (rt (A * V) (U * B)) o := by
  obtain ⟨a, b, g, r1, hb, hl, hg, e1, e2, _⟩ := rt_parts A h
  obtain ⟨a', b', g', r2, hb', hl', hg', e1', e2', _⟩ := rt_parts B h'
  have ha : 0 < a' := by
    apply Int.pos_of_mul_pos_left (b := g')
    · rw [← e1']; exact hB
    · omega
  have ha2 : a' ≤ B := by
    rw [e1']
    have := Int.mul_le_mul_of_nonneg_left (show 1 ≤ g' by omega) (show 0 ≤ a' by omega)
    omega
  have k := prod_lt hb ha hl ha2 h2 hB2
  have m1 : ∀ x, mulOk x b' = true := fun x => mulOk_r (by omega)
  have m2 : ∀ x, mulOk b x = true := fun x => mulOk_l (by omega)
  have e : rt (a * b') (b * a') = rt (A * V) (U * B) := rt_eq (Int.mul_pos hb ha) (Int.mul_pos h hB) (by rw [e1, e2, e1', e2']; ac_rfl)
  have := ratio_ok (p := a * b') n o (Int.mul_pos hb ha) k
  rw [r1, r2, r_over]
  simp [m_over, m1, m2, this, e]
/-- the bounds of the clocks' range, as numerator and denominator -/
def lessOf (b a j : Int) : Int × Int := if j * (9 * (1 + b + a) + (1 + b)) < (1 + b) * (10 * (1 + b + a) + j) then (j, 10 * (1 + b + a) + j) else (1 + b, 9 * (1 + b + a) + (1 + b))
def closedB (b a j : Int) : Bool := decide (j * (9 * (1 + b + a) + (1 + b)) < a * (10 * (1 + b + a) - j))
def moreOf (b a j : Int) : Int × Int := if closedB b a j = true then (j, 10 * (1 + b + a) - j) else (a, 9 * (1 + b + a) + (1 + b))
theorem range_ok {b a j : Int} (b1 : 1 ≤ b) (b2 : b ≤ 16) (a1 : 1 ≤ a) (a2 : a ≤ 16) (j1 : 1 ≤ j) (j2 : j ≤ 16) (n : Nat) (o : Obs) :
    Fc (n + 4) "clock_range" [.tup [.int b, .int a, .int j]] o = .ok (.tup [rt ((lessOf b a j).2 - (lessOf b a j).1) (lessOf b a j).2, rt ((moreOf b a j).2 + (moreOf b a j).1) (moreOf b a j).2, .bl (closedB b a j)]) o := by
  have eat := heard_at_ok (b := b) (a := a) (j := j) (by omega) (by omega) n o
  have ejm := jump_of_ok (b := b) (a := a) (j := j) (by omega) (by omega) n o
  obtain ⟨P, hP⟩ : ∃ P, P = 1 + b + a := ⟨_, rfl⟩
  unfold moreOf closedB lessOf
  rw [← hP] at eat ejm ⊢
  have p0 : 0 < P := by omega
  have hP2 : P < 1099511627776 := by omega
  have e6 := rless2 (U := 1) (V := P) (by decide) (by decide) p0 hP2 1 (1 + b) n o
  rw [Int.one_mul, Int.mul_one, show P - (1 + b) = a from by omega] at e6
  have e2 := rsum2 (U := 1) (V := P) (by decide) (by decide) p0 hP2 9 (1 + b) n o
  rw [Int.one_mul, Int.mul_one] at e2
  have e3 := rless2 (U := 1) (V := P) (by decide) (by decide) p0 hP2 10 j n o
  rw [Int.one_mul, Int.mul_one] at e3
  have e4 := rsum2 (U := 1) (V := P) (by decide) (by decide) p0 hP2 10 j n o
  rw [Int.one_mul, Int.mul_one] at e4
  have red : ∀ A B : Int, 0 < B → rt (A * P) (P * B) = rt A B := fun A B hB => rt_eq (Int.mul_pos p0 hB) hB (by ac_rfl)
  have o1 := over2 p0 hP2 p0 hP2 a (9 * P + (1 + b)) (by omega) (by omega) n o
  have o2 := over2 p0 hP2 p0 hP2 j (10 * P - j) (by omega) (by omega) n o
  have o3 := over2 p0 hP2 p0 hP2 (1 + b) (9 * P + (1 + b)) (by omega) (by omega) n o
  have o4 := over2 p0 hP2 p0 hP2 j (10 * P + j) (by omega) (by omega) n o
  rw [red _ _ (by omega)] at o1 o2 o3 o4
  have l1 := below2 (U := 10 * P - j) (V := 9 * P + (1 + b)) (by omega) (by omega) (by omega) (by omega) j a (n + 2) o
  have l2 := below2 (U := 10 * P + j) (V := 9 * P + (1 + b)) (by omega) (by omega) (by omega) (by omega) j (1 + b) (n + 2) o
  have s1 : ∀ A B : Int, 0 < B → B < 1099511627776 → Fc (n + 3) "sum_of" [rt 1 1, rt A B] o = .ok (rt (B + A) B) o := fun A B h1 h2 => by
    have := rsum2 (U := 1) (V := B) (by decide) (by decide) h1 h2 1 A n o
    rwa [Int.one_mul, Int.mul_one] at this
  have s2 : ∀ A B : Int, 0 < B → B < 1099511627776 → Fc (n + 3) "less_of" [rt 1 1, rt A B] o = .ok (rt (B - A) B) o := fun A B h1 h2 => by
    have := rless2 (U := 1) (V := B) (by decide) (by decide) h1 h2 1 A n o
    rwa [Int.one_mul, Int.mul_one] at this
  have q1 := s1 j (10 * P - j) (by omega) (by omega)
  have q2 := s1 a (9 * P + (1 + b)) (by omega) (by omega)
  have q3 := s2 j (10 * P + j) (by omega) (by omega)
  have q4 := s2 (1 + b) (9 * P + (1 + b)) (by omega) (by omega)
  rw [r_clock_range]
  by_cases c1 : j * (9 * P + (1 + b)) < a * (10 * P - j) <;> by_cases c2 : j * (9 * P + (1 + b)) < (1 + b) * (10 * P + j) <;>
    simp [m_clock_range, one_rt, nine_rt, ten_rt, eat, ejm, e6, e2, e3, e4, o1, o2, o3, o4, l1, l2, c1, c2, q1, q2, q3, q4]
theorem is_ratio_ok {p q : Int} (h : 0 < q) (h2 : q < 1000000000000) (n : Nat) (o : Obs) : Fc (n + 3) "is_ratio" [rt p q] o = .ok (.bl true) o := by
  obtain ⟨a, b, g, r1, hb, hl, hg, e1, e2, hc⟩ := rt_parts p h
  have e := ratio_ok (p := a) (q := b) n o hb (by omega)
  rw [rt_of hb hc] at e
  have w : ∀ i : Int, Fc (n + 2) "is_whole" [.int i] o = .ok (.bl true) o := fun i => by
    rw [r_is_whole]; simp [m_is_whole]
  have c : cmpD .Eq (.tup [.int a, .int b]) (.tup [.int a, .int b]) = some true := by
    rw [eq_okD (by simp [okD, plainD, plainDs, depD, depDs]) (by simp [okD, plainD, plainDs, depD, depDs])]; simp [eqvD, eqvDs]
  rw [r1, r_is_ratio]
  simp [m_is_ratio, w, hb, e, c]
end Mp

set_option Elab.async false
set_option linter.all false
set_option maxRecDepth 100000
namespace Mp
open PySem PySem.Spec PyProof.Rows L2
/-! ### the six clocks near the bounds -/
def lowI (x : Int × Int) : Int × Int := (x.1 / (Int.gcd x.1 x.2 : Nat), x.2 / (Int.gcd x.1 x.2 : Nat))
theorem rt_low (p q : Int) : rt p q = .tup [.int (lowI (p, q)).1, .int (lowI (p, q)).2] := rt_def p q
def leastI (b a j : Int) : Int × Int := lowI ((lessOf b a j).2 - (lessOf b a j).1, (lessOf b a j).2)
def greatI (b a j : Int) : Int × Int := lowI ((moreOf b a j).2 + (moreOf b a j).1, (moreOf b a j).2)
def nearI (b a j : Int) : List (Int × Int) :=
  let l := leastI b a j
  let g := greatI b a j
  [l, g, lowI (l.1 * 1000000 - l.2, l.2 * 1000000), lowI (g.1 * 1000000 + g.2, g.2 * 1000000), lowI (l.1 * 1000000 + l.2, l.2 * 1000000), lowI (g.1 * 1000000 - g.2, g.2 * 1000000)]
def okI (x : Int × Int) : Bool := decide (1 ≤ x.1) && (decide (x.1 ≤ 1000000000) && (decide (1 ≤ x.2) && (decide (x.2 ≤ 1000000000) && decide (Int.gcd x.1 x.2 = 1))))
def fineI (b a j : Int) (x : Int × Int) : Bool := fineB (Tm.U ⟨b, a, j, x.1, x.2⟩) (Tm.L ⟨b, a, j, x.1, x.2⟩) (Tm.M ⟨b, a, j, x.1, x.2⟩) (Tm.S ⟨b, a, j, x.1, x.2⟩)
def nearOk (b a j : Int) : Bool :=
  ((nearI b a j).all okI && decide ((nearI b a j).map (fineI b a j) = [true, closedB b a j, false, false, true, true])) &&
  (decide ((lessOf b a j).2 - (lessOf b a j).1 < (lessOf b a j).2) && decide ((moreOf b a j).2 < (moreOf b a j).2 + (moreOf b a j).1) && (decide (0 < (lessOf b a j).2 ∧ (lessOf b a j).2 < 1000000) && decide (0 < (moreOf b a j).2 ∧ (moreOf b a j).2 < 1000000)))
def nearAll : Bool := (List.range 12).all fun b => (List.range 12).all fun a => (List.range (min a b + 1)).all fun j => nearOk (b + 1 : Nat) (a + 1 : Nat) (j + 1 : Nat)
theorem near_all : nearAll = true := by decide +kernel
theorem near_ok {b a j : Int} (b1 : 1 ≤ b) (b2 : b ≤ 12) (a1 : 1 ≤ a) (a2 : a ≤ 12) (j1 : 1 ≤ j) (j2 : j ≤ a) (j3 : j ≤ b) : nearOk b a j = true := by
  have h := near_all
  unfold nearAll at h
  rw [List.all_eq_true] at h
  have h1 := h (b.toNat - 1) (List.mem_range.mpr (by omega))
  rw [List.all_eq_true] at h1
  have h2 := h1 (a.toNat - 1) (List.mem_range.mpr (by omega))
  rw [List.all_eq_true] at h2
  have h3 := h2 (j.toNat - 1) (List.mem_range.mpr (by omega))
  rwa [show ((b.toNat - 1 + 1 : Nat) : Int) = b from by omega, show ((a.toNat - 1 + 1 : Nat) : Int) = a from by omega, show ((j.toNat - 1 + 1 : Nat) : Int) = j from by omega] at h3
end Mp

set_option Elab.async false
set_option linter.all false
set_option maxRecDepth 100000
namespace Mp
open PySem PySem.Spec PyProof.Rows L2
/-! ### the row that is heard wrong -/
theorem okD_tI (l : List Int) (h : l.length < 16777216) : okD (.tup (l.map .int)) = true := by
  unfold okD
  simp only [plainD, plain_ints, depD, dep_ints, List.length_map, Bool.true_and, Bool.and_eq_true, decide_eq_true_eq]
  exact ⟨h, by decide⟩
theorem eq_tI (a b : List Int) (ha : a.length < 16777216) (hb : b.length < 16777216) : cmpD .Eq (.tup (a.map .int)) (.tup (b.map .int)) = some (decide (a = b)) := by
  rw [eq_okD (okD_tI a ha) (okD_tI b hb)]
  congr 1
  exact eqvDs_ints
theorem ne_tI (a b : List Int) (ha : a.length < 16777216) (hb : b.length < 16777216) : cmpD .NotEq (.tup (a.map .int)) (.tup (b.map .int)) = some (!decide (a = b)) := by
  rw [ne_okD (okD_tI a ha) (okD_tI b hb)]
  congr 2
  exact eqvDs_ints
theorem pat_ten (l : Nat) : pat (10 + l) = pat 10 ++ pat l := by
  unfold pat
  rw [List.range_add, List.map_append, List.map_map]
  congr 1
  refine List.map_congr_left fun k _ => ?_
  show pb (10 + k) = pb k
  unfold pb
  rw [show (10 + k) % 10 = k % 10 from by omega]
theorem period_rep : ∀ m : Nat, (List.replicate m [D.int 0, .int 0, .int 0, .int 0, .int 0, .int 1, .int 1, .int 1, .int 1, .int 1]).flatten = (pat (10 * m)).map .int
  | 0 => rfl
  | m + 1 => by
    rw [List.replicate_succ, List.flatten_cons, period_rep m, show 10 * (m + 1) = 10 + 10 * m from by omega, pat_ten, List.map_append]
    rfl
theorem mul_tup (a : List D) (k : Int) (h1 : -(2 ^ 63) ≤ k ∧ k < 2 ^ 63) (h2 : a.length * k.toNat ≤ 1000000) : mulD (.tup a) (.int k) = some (.tup (List.replicate k.toNat a).flatten) := by
  show (if (decide (-(2 ^ 63) ≤ k ∧ k < 2 ^ 63) && decide (a.length * k.toNat ≤ 1000000)) = true then some (D.tup (List.replicate k.toNat a).flatten) else none) = _
  rw [if_pos]
  rw [Bool.and_eq_true]
  exact ⟨decide_eq_true h1, decide_eq_true h2⟩
theorem period_mul (m : Nat) (h : m ≤ 10000) : mulD (.tup [.int 0, .int 0, .int 0, .int 0, .int 0, .int 1, .int 1, .int 1, .int 1, .int 1]) (.int (m : Nat)) = some (.tup ((pat (10 * m)).map .int)) := by
  rw [mul_tup _ _ ⟨by omega, by omega⟩ (by simp; omega), Int.toNat_natCast, period_rep]
def wrongs (hs rw : List Int) (l : Nat) : List Nat := (List.range l).filter fun i => decide (bitAt hs i ≠ bitAt rw i)
theorem lc_wrong (n : Nat) (o : Obs) (env : Env) (k a b : Nat) (hs rw : List Int) (l : Nat) (hh : hs.length = l) (hr : rw.length = l) (hl : l < 100000)
    (h1 : ∀ d, getD' ((wipeE env [k]).set k (.v d)) a = some (.tup (hs.map .int))) (h2 : ∀ d, getD' ((wipeE env [k]).set k (.v d)) b = some (.tup (rw.map .int))) (h3 : ∀ d, getD' ((wipeE env [k]).set k (.v d)) k = some d) :
    lcD [k] (.nm k) (denC (Fc n) Gl (.some (.cmp .NotEq (.ix (.var a) (.var k)) (.ix (.var b) (.var k))))) (denE (Fc n) Gl (.var k)) env (rangeD 0 l 1) [] o = .ok ((wrongs hs rw l).map fun i : Nat => .int (i : Int)) o := by
  have := lcD_map (own := [k]) (tg := .nm k) (t := denC (Fc n) Gl (.some (.cmp .NotEq (.ix (.var a) (.var k)) (.ix (.var b) (.var k))))) (x := denE (Fc n) Gl (.var k)) (env := env) (o := o)
    (p := fun d => match d with | .int i => decide (bitAt hs i ≠ bitAt rw i) | _ => false) (f := fun d => d) (ds := rangeD 0 l 1) (acc := []) (by simp [rangeD_len]; omega) (fun d hd => by
      obtain ⟨j, hj⟩ := List.getElem?_of_mem hd
      obtain ⟨hj2, rfl⟩ := rangeD_at hj
      have z : (0 : Int) + (j : Nat) * 1 = (j : Nat) := by omega
      rw [z]
      have x1 := at_bit (row := hs) (k := (j : Nat)) (by omega) (by omega)
      have x2 := at_bit (row := rw) (k := (j : Nat)) (by omega) (by omega)
      refine ⟨_, rfl, ?_, fun _ => ?_⟩
      · simp [-wipeE_cons, h1, h2, h3, x1, x2]
      · simp [-wipeE_cons, h3])
  rw [this, List.nil_append]
  congr 1
  unfold rangeD wrongs
  rw [List.filter_map, List.map_map]
  have z : ∀ i : Nat, (0 : Int) + (i : Nat) * 1 = (i : Nat) := fun i => by omega
  simp only [Function.comp_def, z]
theorem wrongs_first {l w : Nat} {hs : List Int} {x : Int} {s : List Int} (hl : w + 2 ≤ l) (h : hs = (pat l).take w ++ x :: s) (hx : x ≠ pb w) : ∃ t, wrongs hs (pat l) l = w :: t := by
  have hlen : ((pat l).take w).length = w := by rw [List.length_take, pat_len]; omega
  have hf : (wrongs hs (pat l) l).head? = some w := by
    unfold wrongs
    rw [List.head?_filter, List.find?_range_eq_some]
    refine ⟨?_, by simp; omega, fun i hi => ?_⟩
    · have a1 : bitAt hs (w : Nat) = x := bitAt_at (by rw [h, List.getElem?_append_right (by omega), hlen, Nat.sub_self]; rfl)
      have a2 : bitAt (pat l) (w : Nat) = pb w := by rw [pat_bit, if_pos (by omega)]
      rw [a1, a2]; exact decide_eq_true hx
    · have a1 : bitAt hs (i : Nat) = pb i := bitAt_at (by rw [h, List.getElem?_append_left (by omega), List.getElem?_take, if_pos hi, pat_get, if_pos (by omega)])
      have a2 : bitAt (pat l) (i : Nat) = pb i := by rw [pat_bit, if_pos (by omega)]
      rw [a1, a2]; simp
  cases hq : wrongs hs (pat l) l with
  | nil => rw [hq] at hf; cases hf
  | cons y t => rw [hq] at hf; cases hf; exact ⟨t, rfl⟩
theorem pat_cut {l w : Nat} (h : w ≤ l) : (pat l).take w = pat w := by
  apply List.ext_getElem?
  intro k
  rw [List.getElem?_take, pat_get, pat_get]
  by_cases c : k < w
  · rw [if_pos c, if_pos c, if_pos (by omega)]
  · rw [if_neg c, if_neg c]
/-- the first bit heard wrong is the one at w -/
structure FirstAt (t : Tm) (w : Nat) : Prop where
  w9 : w ≤ 1010
  right : ∀ l, l % 10 = 0 → l < w + 2 → heardP t (pat l) = pat l
  wrong : ∀ l, w + 2 ≤ l → l ≤ 2 * (w + 2) + 30 → ∃ x s, x ≠ pb w ∧ heardP t (pat l) = (pat l).take w ++ x :: s
theorem FirstAt.ne {t : Tm} {w : Nat} (f : FirstAt t w) {l : Nat} (h : w + 2 ≤ l) (h2 : l ≤ 2 * (w + 2) + 30) : heardP t (pat l) ≠ pat l := by
  obtain ⟨x, s, hx, e⟩ := f.wrong l h h2
  intro c
  rw [e] at c
  have a := congrArg (fun z => z[w]?) c
  have hlen : ((pat l).take w).length = w := by rw [List.length_take, pat_len]; omega
  have a : ((pat l).take w ++ x :: s)[w]? = (pat l)[w]? := a
  rw [List.getElem?_append_right (by omega), hlen, Nat.sub_self, pat_get, if_pos (by omega)] at a
  exact hx (Option.some.inj a)
theorem heardP_len (t : Tm) (row : List Int) : (heardP t row).length = row.length := fd_len row.length
theorem wrong_none {t : Tm} (k : t.Ok) (hf : fineB t.U t.L t.M t.S = true) (n : Nat) (o : Obs) : Fc (n + 5) "wrong_row" [t.tm, t.ck] o = .ok .non o := by
  have e := holds_ok k n o
  rw [hf] at e
  rw [r_wrong_row]
  simp [m_wrong_row, e]
theorem wrong_row_ok {t : Tm} (k : t.Ok) (hf : fineB t.U t.L t.M t.S = false) {w : Nat} (f : FirstAt t w) (n : Nat) (o : Obs) (ho : o.all noLO = true) : Fc (n + 7) "wrong_row" [t.tm, t.ck] o = .ok (.tup ((pat (w + 2)).map .int)) o := by
  have w9 := f.w9
  have e := holds_ok k (n + 2) o
  rw [hf] at e
  have hb := fun l (h : l ≤ 50000) => heard_by_ok k (pat l) (by rw [pat_len]; exact h) n o ho
  rw [r_wrong_row]
  simp [m_wrong_row, e]
  refine endR_seq (whileD_wp (fun k env o' => o' = o ∧ ∃ m : Nat, env = [.v t.tm, .v t.ck, .v (.int (m : Nat)), .un, .un, .un, .un] ∧ 1 ≤ m ∧ (10 * m < 2 * (w + 2) ∨ m = 1) ∧ w + 2 ≤ 10 * m * 2 ^ k) ?_ (k := 10) (by decide) ⟨rfl, 1, rfl, by omega, .inr rfl, by omega⟩)
  intro k' env o' hJ
  obtain ⟨h1, hJ⟩ := hJ
  obtain ⟨m, hJ⟩ := hJ
  obtain ⟨h2, hJ⟩ := hJ
  obtain ⟨m1, hJ⟩ := hJ
  obtain ⟨m2, m3⟩ := hJ
  subst h1
  subst h2
  have em := period_mul m (by omega)
  have e1 := hb (10 * m) (by omega)
  have c1 := eq_tI (heardP t (pat (10 * m))) (pat (10 * m)) (by rw [heardP_len, pat_len]; omega) (by rw [pat_len]; omega)
  have hd : heardP t (pat (10 * m)) = pat (10 * m) ↔ 10 * m < w + 2 := ⟨fun h => Decidable.byContradiction fun c => f.ne (by omega) (by omega) h, fun h => f.right (10 * m) (by omega) h⟩
  simp [em, e1, c1]
  split <;> rename_i c <;> rw [hd] at c
  · obtain ⟨k', rfl⟩ : ∃ k'', k' = k'' + 1 := by
      cases k' with
      | zero => rw [Nat.pow_zero] at m3; omega
      | succ k' => exact ⟨k', rfl⟩
    refine ⟨k', rfl, ?_⟩
    have ml : mulOk (m : Int) 2 = true := mulOk_r (by decide)
    have au : augD .Mult (.int (m : Nat)) (.int 2) = some (.int ((m : Int) * 2)) := by
      show (if mulOk (m : Int) 2 then _ else _) = _
      rw [if_pos ml]
    simp [w_wrong_row_0, au]
    refine ⟨2 * m, by omega, by omega, by omega, ?_⟩
    · rw [Nat.pow_succ] at m3
      rw [show 10 * (2 * m) * 2 ^ k' = 10 * m * (2 ^ k' * 2) from by ac_rfl]
      exact m3
  · have em2 := period_mul (m + 1) (by omega)
    have e2 := hb (10 * (m + 1)) (by omega)
    rw [Int.natCast_add] at em2
    have hts : wrongs (heardP t (pat (10 * (m + 1)))) (pat (10 * (m + 1))) (10 * (m + 1)) = w :: (wrongs (heardP t (pat (10 * (m + 1)))) (pat (10 * (m + 1))) (10 * (m + 1))).tail := by
      obtain ⟨x, s, hx, he⟩ := f.wrong (10 * (m + 1)) (by omega) (by omega)
      obtain ⟨ts, hts⟩ := wrongs_first (by omega) he hx
      rw [hts]; rfl
    have lw := lc_wrong (n + 6) o' [.v t.tm, .v t.ck, .v (.int (m : Nat)), .v (.tup ((pat (10 * (m + 1))).map .int)), .v (.tup ((heardP t (pat (10 * (m + 1)))).map .int)), .un, .un] 6 4 3 (heardP t (pat (10 * (m + 1)))) (pat (10 * (m + 1))) (10 * (m + 1)) (by rw [heardP_len, pat_len]) (pat_len _) (by omega) (fun _ => rfl) (fun _ => rfl) (fun _ => rfl)
    rw [hts] at lw
    have hs : smallI ((10 * (m + 1) : Nat) : Int) = true := smallI_nat _ (by omega)
    have ct : cutD ((pat (10 * (m + 1))).map D.int) none (some ((w : Int) + 2)) = (pat (w + 2)).map .int := by
      rw [cut_to (by omega), ← List.map_take, show ((w : Int) + 2).toNat = w + 2 from by omega, pat_cut (by omega)]
    have tn : (10 * ((m : Int) + 1)).toNat = 10 * (m + 1) := by omega
    simp at em2 lw ct hs
    simp [em2, e2, hs, pat_len, tn, lw, ct]
end Mp

set_option Elab.async false
set_option linter.all false
set_option maxRecDepth 100000
namespace Mp
open PySem PySem.Spec PyProof.Rows L2
/-! ### one turn -/
def tb13 : Ss := (.cons (.set 16 (.call "wrong_row" (.cons (.var 3) (.cons (.var 9) .nil)))) (.cons (.ife (.dis (.cons (.not (.isi (.var 16) "tuple")) (.cons (.not (.chn .LtE .LtE (.lit (.int 2)) (.bi "len" (.cons (.var 16) .nil)) (.lit (.int 2000)))) .nil)))
  (.cons (.ret (.lit (.bl false))) .nil)
  .nil) (.cons (.set 17 (.bin .Mult (.bin .Add (.bin .Mult (.tup (.cons (.lit (.int 0)) .nil)) (.lit (.int 5))) (.bin .Mult (.tup (.cons (.lit (.int 1)) .nil)) (.lit (.int 5)))) (.bin .Add (.lit (.int 2)) (.bin .FloorDiv (.bi "len" (.cons (.var 16) .nil)) (.lit (.int 10)))))) (.cons (.set 18 (.call "_law_hears" (.cons (.var 3) (.cons (.var 9) (.cons (.var 17) .nil))))) (.cons (.set 19 (.lc (.var 7) (.nm 7) (.r1 (.bi "len" (.cons (.var 17) .nil))) (.some (.cmp .NotEq (.ix (.var 18) (.var 7)) (.ix (.var 17) (.var 7)))) [("k", 7)])) (.cons (.ife (.dis (.cons (.cmp .Eq (.var 19) (.lst .nil)) (.cons (.not (.call "_law_same" (.cons (.var 16) (.cons (.sl (.var 17) .none (.some (.bin .Add (.ix (.var 19) (.lit (.int 0))) (.lit (.int 2))))) .nil)))) (.cons (.cmp .Eq (.call "_law_hears" (.cons (.var 3) (.cons (.var 9) (.cons (.var 16) .nil)))) (.var 16)) .nil))))
  (.cons (.ret (.lit (.bl false))) .nil)
  .nil) .nil))))))
def tl13 : Ss := (.cons (.set 9 (.call "_law_clock" (.cons (.var 1) .nil))) (.cons (.set 10 (.call "_law_holds" (.cons (.var 3) (.cons (.var 9) .nil)))) (.cons (.ife (.dis (.cons (.not (.call "_law_same" (.cons (.call "holds" (.cons (.var 3) (.cons (.var 9) .nil))) (.cons (.var 10) .nil)))) (.cons (.con (.cons (.var 10) (.cons (.cmp .NotEq (.call "_law_hears" (.cons (.var 3) (.cons (.var 9) (.cons (.var 8) .nil)))) (.var 8)) .nil))) .nil)))
  (.cons (.ret (.lit (.bl false))) .nil)
  .nil) (.cons (.tgt (.tt [.inr [20, 21, 22], .inr [23, 24]]) (.tup (.cons (.var 3) (.cons (.var 9) .nil)))) (.cons (.set 11 (.bin .Add (.bin .Add (.lit (.int 1)) (.var 20)) (.var 21))) (.cons (.set 12 (.dis (.cons (.cmp .GtE (.bin .Mult (.lit (.int 100)) (.bin .Sub (.bin .Mult (.bin .Mult (.lit (.int 10)) (.bi "abs" (.cons (.bin .Sub (.var 23) (.var 24)) .nil))) (.var 11)) (.bin .Mult (.var 22) (.var 23)))) (.bin .Mult (.var 24) (.var 11))) (.cons (.cmp .GtE (.bin .Add (.bin .Mult (.bin .Mult (.lit (.int 9)) (.bin .Sub (.var 23) (.var 24))) (.var 11)) (.bin .Mult (.var 23) (.bin .Add (.lit (.int 1)) (.var 20)))) (.bin .Mult (.var 24) (.var 11))) .nil)))) (.cons (.ife (.con (.cons (.var 10) (.cons (.cmp .IsNot (.call "wrong_row" (.cons (.var 3) (.cons (.var 9) .nil))) (.lit .non)) .nil)))
  (.cons (.ret (.lit (.bl false))) .nil)
  .nil) (.cons (.ife (.con (.cons (.not (.var 10)) (.cons (.var 12) .nil)))
  tb13
  .nil) .nil))))))))
theorem plain_tup {a : List D} (h : plainDs a = true) (h2 : a.length < 16777216) : plainD (.tup a) = true := by
  simp only [plainD, h, Bool.true_and]; exact decide_eq_true h2
theorem wrong_first (t : Tm) (w : Nat) (h : WrongAt t.U t.L t.M t.S w) (hw : w ≤ 1010) : FirstAt t w := by
  have e : ∀ l, heardP t (pat l) = (stN (pat l) t.U t.L t.M t.S l).fd := fun l => by unfold heardP; rw [pat_len]
  exact ⟨hw, fun l h1 h2 => by rw [e]; exact h.right l h1 h2, fun l h1 _ => by rw [e]; exact h.wrong l h1⟩
structure Tm.Lim (t : Tm) : Prop where
  ML : t.M < t.L
  LU : t.S ≤ t.U → t.L < t.U
theorem Tm.Ok.lim {t : Tm} (k : t.Ok) (hj : t.j ≤ t.b) : t.Lim := by
  have su := S_U t
  obtain ⟨p0, p1⟩ := P_bd k
  obtain ⟨k1, k2, k3, k4, k5, k6, k7, k8, k9, k10, kg⟩ := k
  have a1 : t.j * t.p ≤ t.b * t.p := Int.mul_le_mul_of_nonneg_right hj (by omega)
  have eL : t.L = t.p + t.b * t.p := by unfold Tm.L; rw [Int.add_mul, Int.one_mul]
  have eM : t.M = t.j * t.p := rfl
  refine ⟨by omega, fun h => ?_⟩
  have c : t.p ≤ t.q := by
    have : (t.p - t.q) * t.P ≤ 0 := by omega
    have : ¬ 0 < t.p - t.q := fun z => by have := Int.mul_pos z p0; omega
    omega
  have a2 : (1 + t.b) * t.p ≤ (1 + t.b) * t.q := Int.mul_le_mul_of_nonneg_left c (by omega)
  have a3 : 0 < t.a * t.q := Int.mul_pos (by omega) (by omega)
  have eU : t.U = (1 + t.b) * t.q + t.a * t.q := by unfold Tm.U; rw [Int.add_mul]
  have eL2 : t.L = (1 + t.b) * t.p := rfl
  omega
theorem first_of {t : Tm} (k : t.Ok) (hj : t.j ≤ t.b) (d1 : 10 * (t.p - t.q) ≤ t.q) (d2 : 10 * (t.q - t.p) ≤ t.q) (hf : fineB t.U t.L t.M t.S = false) (hs : soonB t.U t.L t.M t.S = true) : ∃ w, FirstAt t w := by
  obtain ⟨ML, LU⟩ := k.lim hj
  obtain ⟨⟨u1, u2⟩, ⟨l1, l2⟩, ⟨m1, m2⟩, ⟨s1, s2⟩⟩ := k.bd
  have su := S_U t
  obtain ⟨p0, p1⟩ := P_bd k
  have eU : t.U = t.q * t.P := Int.mul_comm ..
  have us : t.U - t.S = (t.q - t.p) * t.P := by
    have : (t.q - t.p) * t.P = -((t.p - t.q) * t.P) := by rw [← Int.neg_mul]; congr 1; omega
    omega
  have g1 : 10 * (t.S - t.U) ≤ t.U := by
    rw [su, eU, ← Int.mul_assoc]; exact Int.mul_le_mul_of_nonneg_right d1 (by omega)
  have g2 : 10 * (t.U - t.S) ≤ t.U := by
    rw [us, eU, ← Int.mul_assoc]; exact Int.mul_le_mul_of_nonneg_right d2 (by omega)
  have g3 : 10 * t.L ≤ 11 * t.U := by
    have k1 := k.b1
    have k3 := k.a1
    have k9 := k.q1
    have a1 : (1 + t.b) * (10 * t.p) ≤ (1 + t.b) * (11 * t.q) := Int.mul_le_mul_of_nonneg_left (by omega) (by omega)
    have a3 : 0 < t.a * t.q := Int.mul_pos (by omega) (by omega)
    have eU : t.U = (1 + t.b) * t.q + t.a * t.q := by unfold Tm.U; rw [Int.add_mul]
    have eL2 : t.L = (1 + t.b) * t.p := rfl
    have z1 : (1 + t.b) * (10 * t.p) = 10 * ((1 + t.b) * t.p) := by ac_rfl
    have z2 : (1 + t.b) * (11 * t.q) = 11 * ((1 + t.b) * t.q) := by ac_rfl
    omega
  obtain ⟨w, h1, h2⟩ := wrong_is u1 l1 m1 ML LU g3 g1 g2 hf hs
  exact ⟨w, wrong_first t w h2 h1⟩
theorem hear_fine {t : Tm} (k : t.Ok) (hj : t.j ≤ t.b) (hf : fineB t.U t.L t.M t.S = true) {row : List Int} (h0 : row[0]? = some 0) (hb : ∀ x ∈ row, x = 0 ∨ x = 1) (h6 : Row6 row) : heardP t row = row := by
  obtain ⟨ML, LU⟩ := k.lim hj
  obtain ⟨⟨u1, u2⟩, ⟨l1, l2⟩, ⟨m1, m2⟩, ⟨s1, s2⟩⟩ := k.bd
  exact fine_hear u1 l1 m1 ML LU hf h0 hb h6
theorem eq_lnil (x : D) (xs : List D) (h : okD (.lst (x :: xs)) = true) : cmpD .Eq (.lst (x :: xs)) (.lst []) = some false := by
  rw [eq_okD h rfl]; rfl
theorem told_ok {t : Tm} (k : t.Ok) (hf : fineB t.U t.L t.M t.S = false) {w : Nat} (f : FirstAt t w) (n : Nat) (o : Obs) (ho : o.all noLO = true) (e0 e1 e2 e4 e5 e6 e7 e8 e10 e11 e12 e13 e14 e15 e16 e17 e18 e19 e20 e21 e22 e23 e24 : Sl) :
    ∃ x16 x17 x18 x19, denSs (Fc (n + 7)) Gl lawM tb13 [e0, e1, e2, .v t.tm, e4, e5, e6, e7, e8, .v t.ck, e10, e11, e12, e13, e14, e15, e16, e17, e18, e19, e20, e21, e22, e23, e24] o =
      .nx [e0, e1, e2, .v t.tm, e4, e5, e6, e7, e8, .v t.ck, e10, e11, e12, e13, e14, e15, x16, x17, x18, x19, e20, e21, e22, e23, e24] o := by
  have w9 := f.w9
  have ew := wrong_row_ok k hf f n o ho
  obtain ⟨N, hN⟩ : ∃ N, N = 2 + (w + 2) / 10 := ⟨_, rfl⟩
  have eh := hears_ok k (pat (10 * N)) (by rw [pat_len]; omega) (n + 6) o ho
  have et := hears_ok k (pat (w + 2)) (by rw [pat_len]; omega) (n + 6) o ho
  have z5 : mulD (.tup [.int 0]) (.int 5) = some (.tup [.int 0, .int 0, .int 0, .int 0, .int 0]) := mul_tup _ _ (by decide) (by decide)
  have o5 : mulD (.tup [.int 1]) (.int 5) = some (.tup [.int 1, .int 1, .int 1, .int 1, .int 1]) := mul_tup _ _ (by decide) (by decide)
  have pm := period_mul N (by omega)
  have fdv : (2 : Int) + ((w : Int) + 2).fdiv 10 = (N : Nat) := by
    rw [Int.fdiv_eq_ediv_of_nonneg _ (by decide), hN]; omega
  have d10 : divOk 10 = true := by decide +kernel
  obtain ⟨x, s, hx, he⟩ := f.wrong (10 * N) (by omega) (by omega)
  obtain ⟨ts, hts⟩ := wrongs_first (by omega) he hx
  have lw := lc_wrong (n + 7) o [e0, e1, e2, .v t.tm, e4, e5, e6, e7, e8, .v t.ck, e10, e11, e12, e13, e14, e15, .v (.tup ((pat (w + 2)).map .int)), .v (.tup ((pat (10 * N)).map .int)), .v (.tup ((heardP t (pat (10 * N))).map .int)), e19, e20, e21, e22, e23, e24] 7 18 17 (heardP t (pat (10 * N))) (pat (10 * N)) (10 * N) (by rw [heardP_len, pat_len]) (pat_len _) (by omega) (fun _ => rfl) (fun _ => rfl) (fun _ => rfl)
  have hwl : (wrongs (heardP t (pat (10 * N))) (pat (10 * N)) (10 * N)).length < 16777216 := by
    have := List.length_filter_le (fun i => decide (bitAt (heardP t (pat (10 * N))) (i : Nat) ≠ bitAt (pat (10 * N)) (i : Nat))) (List.range (10 * N))
    rw [List.length_range] at this
    unfold wrongs
    omega
  have hnil := eq_lnil (.int (w : Nat)) (ts.map fun i : Nat => D.int (i : Int)) (by
    have := okD_ints ((w :: ts).map fun i : Nat => (i : Int)) (by rw [List.length_map, ← hts]; exact hwl)
    rw [List.map_map] at this
    exact this)
  rw [hts] at lw
  have ct : cutD ((pat (10 * N)).map D.int) none (some ((w : Int) + 2)) = (pat (w + 2)).map .int := by
    rw [cut_to (by omega), ← List.map_take, show ((w : Int) + 2).toNat = w + 2 from by omega, pat_cut (by omega)]
  have es := same_ok (n + 7) (.tup ((pat (w + 2)).map .int)) o (plain_tup (plain_ints _) (by rw [List.length_map, pat_len]; omega)) (by simp only [depD, dep_ints]; omega)
  have ne := eq_tI (heardP t (pat (w + 2))) (pat (w + 2)) (by rw [heardP_len, pat_len]; omega) (by rw [pat_len]; omega)
  rw [decide_eq_false (f.ne (by omega) (by omega))] at ne
  have hs : smallI ((10 * N : Nat) : Int) = true := smallI_nat _ (by omega)
  have tn : (10 * (N : Int)).toNat = 10 * N := by omega
  have lg : 2 ≤ (w : Int) + 2 ∧ (w : Int) + 2 ≤ 2000 := by omega
  simp at lw ct hs hnil
  simp [tb13, ew, pat_len, lg, z5, o5, d10, fdv, pm, eh, hs, tn, lw, hnil, ct, es, et, ne]
end Mp

set_option Elab.async false
set_option linter.all false
set_option maxRecDepth 100000
namespace Mp
open PySem PySem.Spec PyProof.Rows L2
theorem soon_eq {t : Tm} (k : t.Ok) : soonB t.U t.L t.M t.S = (decide (t.q * (1 + t.b + t.a) ≤ 100 * (10 * ((t.p - t.q).natAbs : Int) * (1 + t.b + t.a) - t.j * t.p)) || decide (t.q * (1 + t.b + t.a) ≤ 9 * (t.p - t.q) * (1 + t.b + t.a) + t.p * (1 + t.b))) := by
  obtain ⟨p0, p1⟩ := P_bd k
  have su := S_U t
  have eU : t.U = t.q * t.P := Int.mul_comm ..
  have ea := abs_mul (t.p - t.q) (P := t.P) (by omega)
  unfold soonB
  rw [su, ea, eU, show 1 + t.b + t.a = t.P from rfl, show t.M = t.j * t.p from rfl, show t.L = t.p * (1 + t.b) from Int.mul_comm .., ← Int.mul_assoc 10, ← Int.mul_assoc 9]
theorem tail_ok (n : Nat) (s : Tp) (hk : 0 ≤ s.k) {b a j : Int} (b1 : 1 ≤ b) (b2 : b ≤ 12) (a1 : 1 ≤ a) (a2 : a ≤ 12) (j1 : 1 ≤ j) (j2 : j ≤ 12) (jb : j ≤ b) {row : List Int} (hl : row.length ≤ 100) (h0 : row[0]? = some 0) (hb : ∀ x ∈ row, x = 0 ∨ x = 1) (h6 : Row6 row) (P : Pt) (e0 e2 e4 e5 e6 e7 e9 e10 e11 e12 e13 e14 e15 e16 e17 e18 e19 e20 e21 e22 e23 e24 : Sl)
    (hP : ∀ s' x9 x10 x11 x12 x16 x17 x18 x19 x20 x21 x22 x23 x24, 0 ≤ s'.k → P.nx [e0, .v (.obj 1), e2, .v (.tup [.int b, .int a, .int j]), e4, e5, e6, e7, .v (.tup (row.map .int)), x9, x10, x11, x12, e13, e14, e15, x16, x17, x18, x19, x20, x21, x22, x23, x24] (tp s' [])) :
    (denSs (Fc (n + 7)) Gl lawM tl13 [e0, .v (.obj 1), e2, .v (.tup [.int b, .int a, .int j]), e4, e5, e6, e7, .v (.tup (row.map .int)), e9, e10, e11, e12, e13, e14, e15, e16, e17, e18, e19, e20, e21, e22, e23, e24] (tp s [])).wp P := by
  obtain ⟨p, q, s2, t2, p1, p2, q1, q2, g, d1, d2, k2⟩ := clock_ok s (n + 4) hk
  have k : Tm.Ok ⟨b, a, j, p, q⟩ := ⟨b1, by show b ≤ 16; omega, a1, by show a ≤ 16; omega, j1, by show j ≤ 16; omega, p1, by show p ≤ 1000000000; omega, q1, by show q ≤ 1000000000; omega, g⟩
  have eh := holds_ok k (n + 3) (tp s2 [])
  have el := law_holds_ok k (n + 6) (tp s2 [])
  have ehs := hears_ok k row (by omega) (n + 6) (tp s2 []) (noLO_tp s2)
  have hlen : row.length < 16777216 := by omega
  have ens := soon_eq k
  have m1 : ∀ x, mulOk x (1 + b + a) = true := fun x => mulOk_r (by omega)
  have m2 : ∀ x, mulOk 10 x = true := fun x => mulOk_l (by decide)
  have m3 : ∀ x, mulOk 9 x = true := fun x => mulOk_l (by decide)
  have m4 : ∀ x, mulOk 100 x = true := fun x => mulOk_l (by decide)
  have m5 : mulOk j p = true := mulOk_l (by omega)
  have m6 : mulOk p (1 + b) = true := mulOk_l (by omega)
  simp only at ens
  cases hf : fineB (Tm.U ⟨b, a, j, p, q⟩) (Tm.L ⟨b, a, j, p, q⟩) (Tm.M ⟨b, a, j, p, q⟩) (Tm.S ⟨b, a, j, p, q⟩) with
  | true =>
    have es := same_ok (n + 7) (.bl true) (tp s2 []) rfl (by simp [depD])
    have ew := wrong_none k hf (n + 2) (tp s2 [])
    have hr := hear_fine k jb hf h0 hb h6
    have ne := ne_tI row row hlen hlen
    rw [decide_eq_true rfl] at ne
    rw [hf] at eh el
    rw [hr] at ehs
    simp only [Tm.tm, Tm.ck] at eh el ehs ew
    by_cases s1 : q * (1 + b + a) ≤ 100 * (10 * ((p - q).natAbs : Int) * (1 + b + a) - j * p)
    · simp [tl13, t2, eh, el, es, ehs, ne, m1, m2, m3, m4, m5, m6, s1, ew]
      exact hP s2 _ _ _ _ _ _ _ _ _ _ _ _ _ k2
    · by_cases s2' : q * (1 + b + a) ≤ 9 * (p - q) * (1 + b + a) + p * (1 + b)
      · simp [tl13, t2, eh, el, es, ehs, ne, m1, m2, m3, m4, m5, m6, s1, s2', ew]
        exact hP s2 _ _ _ _ _ _ _ _ _ _ _ _ _ k2
      · simp [tl13, t2, eh, el, es, ehs, ne, m1, m2, m3, m4, m5, m6, s1, s2', ew]
        exact hP s2 _ _ _ _ _ _ _ _ _ _ _ _ _ k2
  | false =>
    have es := same_ok (n + 7) (.bl false) (tp s2 []) rfl (by simp [depD])
    rw [hf] at eh el
    have told := fun hs => first_of k jb d1 d2 hf hs
    have tk := fun w (f : FirstAt ⟨b, a, j, p, q⟩ w) => told_ok k hf f n (tp s2 []) (noLO_tp s2) e0 (.v (.obj 1)) e2 e4 e5 e6 e7 (.v (.tup (row.map .int))) (.v (.bl false)) (.v (.int (1 + b + a))) (.v (.bl true)) e13 e14 e15 e16 e17 e18 e19 (.v (.int b)) (.v (.int a)) (.v (.int j)) (.v (.int p)) (.v (.int q))
    simp only [Tm.tm, Tm.ck] at eh el tk
    by_cases s1 : q * (1 + b + a) ≤ 100 * (10 * ((p - q).natAbs : Int) * (1 + b + a) - j * p)
    · obtain ⟨w, f⟩ := told (by rw [ens, decide_eq_true s1]; rfl)
      obtain ⟨x16, x17, x18, x19, et⟩ := tk w f
      simp [tl13, t2, eh, el, es, m1, m2, m3, m4, m5, m6, s1, et]
      exact hP s2 _ _ _ _ _ _ _ _ _ _ _ _ _ k2
    · by_cases s2' : q * (1 + b + a) ≤ 9 * (p - q) * (1 + b + a) + p * (1 + b)
      · obtain ⟨w, f⟩ := told (by rw [ens, decide_eq_true s2', Bool.or_true])
        obtain ⟨x16, x17, x18, x19, et⟩ := tk w f
        simp [tl13, t2, eh, el, es, m1, m2, m3, m4, m5, m6, s1, s2', et]
        exact hP s2 _ _ _ _ _ _ _ _ _ _ _ _ _ k2
      · simp [tl13, t2, eh, el, es, m1, m2, m3, m4, m5, m6, s1, s2']
        exact hP s2 _ _ _ _ _ _ _ _ _ _ _ _ _ k2
end Mp

set_option Elab.async false
set_option linter.all false
set_option maxRecDepth 100000
namespace Mp
open PySem PySem.Spec PyProof.Rows L2
theorem okI_ok {b a j : Int} (b1 : 1 ≤ b) (b2 : b ≤ 12) (a1 : 1 ≤ a) (a2 : a ≤ 12) (j1 : 1 ≤ j) (j2 : j ≤ 12) {x y : Int} (h : okI (x, y) = true) : Tm.Ok ⟨b, a, j, x, y⟩ := by
  unfold okI at h
  simp only [Bool.and_eq_true, decide_eq_true_eq] at h
  obtain ⟨h1, h2, h3, h4, h5⟩ := h
  exact ⟨b1, by show b ≤ 16; omega, a1, by show a ≤ 16; omega, j1, by show j ≤ 16; omega, h1, h2, h3, h4, h5⟩
structure NearIs (b a j l1 l2 g1 g2 c1 c2 d1 d2 u1 u2 v1 v2 : Int) : Prop where
  rl : rt ((lessOf b a j).2 - (lessOf b a j).1) (lessOf b a j).2 = .tup [.int l1, .int l2]
  rg : rt ((moreOf b a j).2 + (moreOf b a j).1) (moreOf b a j).2 = .tup [.int g1, .int g2]
  rc : rt (l1 * 1000000 - l2) (l2 * 1000000) = .tup [.int c1, .int c2]
  rd : rt (g1 * 1000000 + g2) (g2 * 1000000) = .tup [.int d1, .int d2]
  ru : rt (l1 * 1000000 + l2) (l2 * 1000000) = .tup [.int u1, .int u2]
  rv : rt (g1 * 1000000 - g2) (g2 * 1000000) = .tup [.int v1, .int v2]
  ol : okI (l1, l2) = true
  og : okI (g1, g2) = true
  oc : okI (c1, c2) = true
  od : okI (d1, d2) = true
  ou : okI (u1, u2) = true
  ov : okI (v1, v2) = true
  fl : fineI b a j (l1, l2) = true
  fg : fineI b a j (g1, g2) = closedB b a j
  fc : fineI b a j (c1, c2) = false
  fd : fineI b a j (d1, d2) = false
  fu : fineI b a j (u1, u2) = true
  fv : fineI b a j (v1, v2) = true
  less1 : (lessOf b a j).2 - (lessOf b a j).1 < (lessOf b a j).2
  more1 : (moreOf b a j).2 < (moreOf b a j).2 + (moreOf b a j).1
  lb : 0 < (lessOf b a j).2 ∧ (lessOf b a j).2 < 1000000
  mb : 0 < (moreOf b a j).2 ∧ (moreOf b a j).2 < 1000000
theorem near_is {b a j : Int} (b1 : 1 ≤ b) (b2 : b ≤ 12) (a1 : 1 ≤ a) (a2 : a ≤ 12) (j1 : 1 ≤ j) (j2 : j ≤ a) (j3 : j ≤ b) : ∃ l1 l2 g1 g2 c1 c2 d1 d2 u1 u2 v1 v2, NearIs b a j l1 l2 g1 g2 c1 c2 d1 d2 u1 u2 v1 v2 := by
  have h := near_ok b1 b2 a1 a2 j1 j2 j3
  unfold nearOk nearI at h
  simp only [List.all_cons, List.all_nil, List.map_cons, List.map_nil, Bool.and_eq_true, Bool.and_true, decide_eq_true_eq, List.cons.injEq, and_true] at h
  obtain ⟨⟨⟨k1, k2, k3, k4, k5, k6⟩, f1, f2, f3, f4, f5, f6⟩, ⟨n1, n2⟩, n3, n4⟩ := h
  exact ⟨(leastI b a j).1, (leastI b a j).2, (greatI b a j).1, (greatI b a j).2, _, _, _, _, _, _, _, _,
    ⟨rt_low _ _, rt_low _ _, rt_low _ _, rt_low _ _, rt_low _ _, rt_low _ _, k1, k2, k3, k4, k5, k6, f1, f2, f3, f4, f5, f6, n1, n2, n3, n4⟩⟩
theorem near_body (n : Nat) (o : Obs) {b a j x y : Int} (k : Tm.Ok ⟨b, a, j, x, y⟩) (d : Bool) (hf : fineI b a j (x, y) = d) (nl dl : List D) (i : Int) (h1 : atI nl i = some (.tup [.int x, .int y])) (h2 : atI dl i = some (.bl d))
    (e0 e1 e2 e4 e8 e9 e10 e11 e12 e13 e14 e15 e16 e17 e18 e19 e20 e21 e22 e23 e24 : Sl) :
    denSs (Fc (n + 7)) Gl lawM w_law_0 [e0, e1, e2, .v (.tup [.int b, .int a, .int j]), e4, .v (.lst nl), .v (.lst dl), .v (.int i), e8, e9, e10, e11, e12, e13, e14, e15, e16, e17, e18, e19, e20, e21, e22, e23, e24] o =
      .nx [e0, e1, e2, .v (.tup [.int b, .int a, .int j]), e4, .v (.lst nl), .v (.lst dl), .v (.int i), e8, e9, e10, e11, e12, e13, e14, e15, e16, e17, e18, e19, e20, e21, e22, e23, e24] o := by
  have eh := holds_ok k (n + 3) o
  have el := law_holds_ok k (n + 6) o
  have es := same_ok (n + 7) (.tup [.bl d, .bl d]) o (by simp [plainD, plainDs]) (by simp [depD, depDs])
  rw [show fineB _ _ _ _ = d from hf] at eh el
  simp only [Tm.tm, Tm.ck] at eh el
  simp [w_law_0, h1, h2, eh, el, es]
theorem clock_body (n : Nat) (o : Obs) (ho : o.all noLO = true) {b a j x y : Int} (k : Tm.Ok ⟨b, a, j, x, y⟩) (jb : j ≤ b) (hf : fineI b a j (x, y) = true) {row : List Int} (hl : row.length ≤ 100) (h0 : row[0]? = some 0) (hb : ∀ x ∈ row, x = 0 ∨ x = 1) (h6 : Row6 row)
    (e0 e1 e2 e4 e5 e6 e7 e10 e11 e12 e13 e14 e15 e16 e17 e18 e19 e20 e21 e22 e23 e24 : Sl) :
    denSs (Fc (n + 7)) Gl lawM w_law_1 [e0, e1, e2, .v (.tup [.int b, .int a, .int j]), e4, e5, e6, e7, .v (.tup (row.map .int)), .v (.tup [.int x, .int y]), e10, e11, e12, e13, e14, e15, e16, e17, e18, e19, e20, e21, e22, e23, e24] o =
      .nx [e0, e1, e2, .v (.tup [.int b, .int a, .int j]), e4, e5, e6, e7, .v (.tup (row.map .int)), .v (.tup [.int x, .int y]), e10, e11, e12, e13, e14, e15, e16, e17, e18, e19, e20, e21, e22, e23, e24] o := by
  have hf' : fineB (Tm.U ⟨b, a, j, x, y⟩) (Tm.L ⟨b, a, j, x, y⟩) (Tm.M ⟨b, a, j, x, y⟩) (Tm.S ⟨b, a, j, x, y⟩) = true := hf
  have hlen : row.length < 16777216 := by omega
  have ehs := heard_by_ok k row (by omega) (n + 1) o ho
  have ew := wrong_none k hf' (n + 2) o
  rw [hear_fine k jb hf' h0 hb h6] at ehs
  have ne := ne_tI row row hlen hlen
  rw [decide_eq_true rfl] at ne
  simp only [Tm.tm, Tm.ck] at ehs ew
  simp [w_law_1, ehs, ne, ew]
theorem turn_ok (n : Nat) (s : Tp) (hk : 0 ≤ s.k) (P : Pt) (e0 e2 e3 e4 e5 e6 e7 e8 e9 e10 e11 e12 e13 e14 e15 e16 e17 e18 e19 e20 e21 e22 e23 e24 : Sl)
    (hP : ∀ s' x3 x4 x5 x6 x7 x8 x9 x10 x11 x12 x13 x14 x15 x16 x17 x18 x19 x20 x21 x22 x23 x24, 0 ≤ s'.k → P.nx [e0, .v (.obj 1), e2, x3, x4, x5, x6, x7, x8, x9, x10, x11, x12, x13, x14, x15, x16, x17, x18, x19, x20, x21, x22, x23, x24] (tp s' [])) :
    (denSs (Fc (n + 7)) Gl lawM w_law_2 [e0, .v (.obj 1), e2, e3, e4, e5, e6, e7, e8, e9, e10, e11, e12, e13, e14, e15, e16, e17, e18, e19, e20, e21, e22, e23, e24] (tp s [])).wp P := by
  obtain ⟨b, a, j, s1, t1, b1, b2, a1, a2, j1, j2, ja, jb, k1⟩ := timing_ok s (n + 4) hk
  obtain ⟨l1, l2, g1, g2, c1, c2, d1, d2, u1, u2, v1, v2, N⟩ := near_is b1 b2 a1 a2 j1 ja jb
  have t2 := range_ok b1 (by omega) a1 (by omega) j1 (by omega) (n + 3) (tp s1 [])
  have r1 := is_ratio_ok (p := (lessOf b a j).2 - (lessOf b a j).1) N.lb.1 (by have := N.lb.2; omega) (n + 4) (tp s1 [])
  have r2 := is_ratio_ok (p := (moreOf b a j).2 + (moreOf b a j).1) N.mb.1 (by have := N.mb.2; omega) (n + 4) (tp s1 [])
  have r3 := below2 (V := 1) N.lb.1 (by have := N.lb.2; omega) (by decide) (by decide) ((lessOf b a j).2 - (lessOf b a j).1) 1 (n + 6) (tp s1 [])
  have r4 := below2 (U := 1) (by decide) (by decide) N.mb.1 (by have := N.mb.2; omega) 1 ((moreOf b a j).2 + (moreOf b a j).1) (n + 6) (tp s1 [])
  rw [Int.mul_one, Int.one_mul, decide_eq_true N.less1] at r3
  rw [Int.mul_one, Int.one_mul, decide_eq_true N.more1] at r4
  rw [N.rl, N.rg] at t2
  rw [N.rl] at r1 r3
  rw [N.rg] at r2 r4
  have kl := okI_ok b1 b2 a1 a2 j1 j2 N.ol
  have kg := okI_ok b1 b2 a1 a2 j1 j2 N.og
  have kc := okI_ok b1 b2 a1 a2 j1 j2 N.oc
  have kd := okI_ok b1 b2 a1 a2 j1 j2 N.od
  have ku := okI_ok b1 b2 a1 a2 j1 j2 N.ou
  have kv := okI_ok b1 b2 a1 a2 j1 j2 N.ov
  have q1 : 0 < l2 * 1000000 ∧ l2 * 1000000 < 18446744073709551616 := by have a := kl.q1; have b := kl.q2; simp only at a b; omega
  have q2 : 0 < g2 * 1000000 ∧ g2 * 1000000 < 18446744073709551616 := by have a := kg.q1; have b := kg.q2; simp only at a b; omega
  have w1 := low_ok (p := l1 * 1000000 - l2) q1.1 q1.2 (n + 6) (tp s1 [])
  have w2 := low_ok (p := g1 * 1000000 + g2) q2.1 q2.2 (n + 6) (tp s1 [])
  have w3 := low_ok (p := l1 * 1000000 + l2) q1.1 q1.2 (n + 6) (tp s1 [])
  have w4 := low_ok (p := g1 * 1000000 - g2) q2.1 q2.2 (n + 6) (tp s1 [])
  rw [N.rc] at w1
  rw [N.rd] at w2
  rw [N.ru] at w3
  rw [N.rv] at w4
  have p6 : powD (.int 10) (.int 6) = some (.int 1000000) := rfl
  have m1 : ∀ x, mulOk x 1000000 = true := fun x => mulOk_r (by decide)
  have hs6 : smallI 6 = true := by decide
  have z6 : (6 : Int).toNat = 6 := rfl
  rw [one_rt.symm] at r3 r4
  unfold w_law_2
  simp [t1, t2, r1, r2, r3, r4, p6, m1, w1, w2, w3, w4, hs6, z6]
  refine RS.wp_seq (forD_wp (fun i env o => o = tp s1 [] ∧ ∃ x7, env = [e0, .v (.obj 1), e2, .v (.tup [.int b, .int a, .int j]), .v (.int 1000000), .v (.lst [.tup [.int l1, .int l2], .tup [.int g1, .int g2], .tup [.int c1, .int c2], .tup [.int d1, .int d2], .tup [.int u1, .int u2], .tup [.int v1, .int v2]]), .v (.lst [.bl true, .bl (closedB b a j), .bl false, .bl false, .bl true, .bl true]), x7, e8, e9, e10, e11, e12, .v (.tup [.int l1, .int l2]), .v (.tup [.int g1, .int g2]), .v (.bl (closedB b a j)), e16, e17, e18, e19, e20, e21, e22, e23, e24]) (i := 0) ⟨rfl, e7, rfl⟩ ?_ ?_)
  · rintro i d env o hi ⟨rfl, x7, rfl⟩
    obtain ⟨hi6, rfl⟩ := rangeD_at hi
    refine ⟨_, rfl, ?_⟩
    have z : (0 : Int) + (i : Nat) * 1 = (i : Nat) := by omega
    rw [z]
    obtain ⟨x, y, d, kx, fx, h1, h2⟩ : ∃ x y d, Tm.Ok ⟨b, a, j, x, y⟩ ∧ fineI b a j (x, y) = d ∧ atI [D.tup [.int l1, .int l2], .tup [.int g1, .int g2], .tup [.int c1, .int c2], .tup [.int d1, .int d2], .tup [.int u1, .int u2], .tup [.int v1, .int v2]] (i : Nat) = some (.tup [.int x, .int y]) ∧ atI [D.bl true, .bl (closedB b a j), .bl false, .bl false, .bl true, .bl true] (i : Nat) = some (.bl d) := by
      have : i = 0 ∨ i = 1 ∨ i = 2 ∨ i = 3 ∨ i = 4 ∨ i = 5 := by omega
      rcases this with rfl | rfl | rfl | rfl | rfl | rfl
      · exact ⟨l1, l2, _, kl, N.fl, rfl, rfl⟩
      · exact ⟨g1, g2, _, kg, N.fg, rfl, rfl⟩
      · exact ⟨c1, c2, _, kc, N.fc, rfl, rfl⟩
      · exact ⟨d1, d2, _, kd, N.fd, rfl, rfl⟩
      · exact ⟨u1, u2, _, ku, N.fu, rfl, rfl⟩
      · exact ⟨v1, v2, _, kv, N.fv, rfl, rfl⟩
    simp only [List.set_cons_succ, List.set_cons_zero]
    rw [near_body n (tp s1 []) kx d fx _ _ _ h1 h2]
    exact ⟨rfl, _, rfl⟩
  · rintro env o ⟨rfl, x7, rfl⟩
    obtain ⟨d, s2, t3, dd1, dd2, k2⟩ := take_ok s1 [] (n + 5) k1 (many := 51) (by decide) (by decide)
    obtain ⟨row, s3, t4, hl, h0, hb, h6, k3⟩ := row_ok s2 (n + 4) k2 (10 + d) (by omega) (by omega)
    simp [t3, t4]
    refine RS.wp_seq (forD_wp (fun i env o => o = tp s3 [] ∧ ∃ x9, env = [e0, .v (.obj 1), e2, .v (.tup [.int b, .int a, .int j]), .v (.int 1000000), .v (.lst [.tup [.int l1, .int l2], .tup [.int g1, .int g2], .tup [.int c1, .int c2], .tup [.int d1, .int d2], .tup [.int u1, .int u2], .tup [.int v1, .int v2]]), .v (.lst [.bl true, .bl (closedB b a j), .bl false, .bl false, .bl true, .bl true]), x7, .v (.tup (row.map .int)), x9, e10, e11, e12, .v (.tup [.int l1, .int l2]), .v (.tup [.int g1, .int g2]), .v (.bl (closedB b a j)), e16, e17, e18, e19, e20, e21, e22, e23, e24]) (i := 0) ⟨rfl, e9, rfl⟩ ?_ ?_)
    · rintro i d env o hi ⟨rfl, x9, rfl⟩
      refine ⟨_, rfl, ?_⟩
      obtain ⟨x, y, kx, fx, rfl⟩ : ∃ x y, Tm.Ok ⟨b, a, j, x, y⟩ ∧ fineI b a j (x, y) = true ∧ d = .tup [.int x, .int y] := by
        have hm := List.mem_of_getElem? hi
        simp only [List.mem_cons, List.not_mem_nil, or_false] at hm
        rcases hm with rfl | rfl | rfl
        · exact ⟨l1, l2, kl, N.fl, rfl⟩
        · exact ⟨v1, v2, kv, N.fv, rfl⟩
        · exact ⟨u1, u2, ku, N.fu, rfl⟩
      simp only [List.set_cons_succ, List.set_cons_zero]
      rw [clock_body n (tp s3 []) (noLO_tp s3) kx jb fx hl h0 hb h6]
      exact ⟨rfl, _, rfl⟩
    · rintro env o ⟨rfl, x9, rfl⟩
      exact tail_ok n s3 k3 b1 b2 a1 a2 j1 j2 jb hl h0 hb h6 P _ _ _ _ _ _ _ _ _ _ _ _ _ _ _ _ _ _ _ _ _ _ fun s' x9 x10 x11 x12 x16 x17 x18 x19 x20 x21 x22 x23 x24 k' => hP s' _ _ _ _ _ _ _ _ _ _ _ _ _ _ _ _ _ _ _ _ _ _ k'
/-! ### the law -/
def wrongChk (t : Tm) (w l : Nat) : Bool := decide ((heardP t (pat l)).take w = (pat l).take w) && ((heardP t (pat l))[w]?.any fun x => decide (x ≠ pb w))
theorem wrongChk_ok {t : Tm} {w l : Nat} (h : wrongChk t w l = true) : ∃ x s, x ≠ pb w ∧ heardP t (pat l) = (pat l).take w ++ x :: s := by
  unfold wrongChk at h
  rw [Bool.and_eq_true, decide_eq_true_eq, Option.any_eq_true] at h
  obtain ⟨h1, x, h2, h3⟩ := h
  refine ⟨x, (heardP t (pat l)).drop (w + 1), of_decide_eq_true h3, ?_⟩
  rw [← h1]
  obtain ⟨hw, h2⟩ := List.getElem?_eq_some_iff.mp h2
  rw [← h2, ← List.drop_eq_getElem_cons hw, List.take_append_drop]
def firstChk (t : Tm) (w : Nat) : Bool := (List.range (w + 2)).all (fun l => !(decide (l % 10 = 0)) || decide (heardP t (pat l) = pat l)) && (List.range (2 * (w + 2) + 31)).all (fun l => decide (l < w + 2) || wrongChk t w l)
theorem firstChk_ok {t : Tm} {w : Nat} (hw : w ≤ 1010) (h : firstChk t w = true) : FirstAt t w := by
  unfold firstChk at h
  rw [Bool.and_eq_true, List.all_eq_true, List.all_eq_true] at h
  refine ⟨hw, fun l h1 h2 => ?_, fun l h1 h2 => ?_⟩
  · have := h.1 l (List.mem_range.mpr h2)
    rw [decide_eq_true h1] at this
    simpa using this
  · have := h.2 l (List.mem_range.mpr (by omega))
    rw [decide_eq_false (by omega)] at this
    exact wrongChk_ok (by simpa using this)
theorem first_65 : FirstAt ⟨2, 1, 1, 6, 5⟩ 4 := firstChk_ok (by decide) (by decide +kernel)
theorem first_40 : FirstAt ⟨2, 1, 1, 40, 39⟩ 9 := firstChk_ok (by decide) (by decide +kernel)
theorem law_ok (n : Nat) (ns : List Int) : (denSs (Fc (n + 7)) Gl lawM m_law [.v (.loc ns), .un, .un, .un, .un, .un, .un, .un, .un, .un, .un, .un, .un, .un, .un, .un, .un, .un, .un, .un, .un, .un, .un, .un, .un] []).wp { nx := fun _ _ => False, rt := fun d _ => d = .bl true } := by
  obtain ⟨s, e1, k1⟩ := tape_ok ns (n + 6)
  have o1 : Tm.Ok ⟨2, 1, 1, 1, 1⟩ := ⟨by decide, by decide, by decide, by decide, by decide, by decide, by decide, by decide, by decide, by decide, by decide⟩
  have o2 : Tm.Ok ⟨2, 1, 1, 6, 5⟩ := ⟨by decide, by decide, by decide, by decide, by decide, by decide, by decide, by decide, by decide, by decide, by decide⟩
  have o3 : Tm.Ok ⟨2, 1, 1, 40, 39⟩ := ⟨by decide, by decide, by decide, by decide, by decide, by decide, by decide, by decide, by decide, by decide, by decide⟩
  have o4 : Tm.Ok ⟨2, 1, 1, 40, 41⟩ := ⟨by decide, by decide, by decide, by decide, by decide, by decide, by decide, by decide, by decide, by decide, by decide⟩
  have t1 := range_ok (b := 2) (a := 1) (j := 1) (by decide) (by decide) (by decide) (by decide) (by decide) (by decide) (n + 3) (tp s [])
  rw [rt_low, rt_low, show lowI ((lessOf 2 1 1).2 - (lessOf 2 1 1).1, (lessOf 2 1 1).2) = (40, 41) from by decide +kernel, show lowI ((moreOf 2 1 1).2 + (moreOf 2 1 1).1, (moreOf 2 1 1).2) = (40, 39) from by decide +kernel, show closedB 2 1 1 = false from by decide +kernel] at t1
  have c1 : cmpD .NotEq (.tup [.tup [.int 40, .int 41], .tup [.int 40, .int 39], .bl false]) (.tup [.tup [.int 40, .int 41], .tup [.int 40, .int 39], .bl false]) = some false := by
    rw [ne_okD (by decide) (by decide)]; simp [eqvD, eqvDs]
  have h3 := holds_ok o3 (n + 3) (tp s [])
  have h4 := holds_ok o4 (n + 3) (tp s [])
  rw [show fineB _ _ _ _ = false from by decide +kernel] at h3
  rw [show fineB _ _ _ _ = true from by decide +kernel] at h4
  have w1 := wrong_none o1 (by decide +kernel) (n + 2) (tp s [])
  have w2 := wrong_row_ok o2 (by decide +kernel) first_65 n (tp s []) (noLO_tp s)
  have w3 := wrong_row_ok o3 (by decide +kernel) first_40 n (tp s []) (noLO_tp s)
  rw [show pat (4 + 2) = [0, 0, 0, 0, 0, 1] from by decide +kernel] at w2
  rw [show pat (9 + 2) = [0, 0, 0, 0, 0, 1, 1, 1, 1, 1, 0] from by decide +kernel] at w3
  simp only [Tm.tm, Tm.ck, List.map_cons, List.map_nil] at h3 h4 w1 w2 w3
  have c2 : cmpD .NotEq (.tup [.int 0, .int 0, .int 0, .int 0, .int 0, .int 1]) (.tup [.int 0, .int 0, .int 0, .int 0, .int 0, .int 1]) = some false := by
    rw [ne_okD (by decide) (by decide)]; simp [eqvD, eqvDs]
  have c3 : cmpD .NotEq (.tup [.int 0, .int 0, .int 0, .int 0, .int 0, .int 1, .int 1, .int 1, .int 1, .int 1, .int 0]) (.tup [.int 0, .int 0, .int 0, .int 0, .int 0, .int 1, .int 1, .int 1, .int 1, .int 1, .int 0]) = some false := by
    rw [ne_okD (by decide) (by decide)]; simp [eqvD, eqvDs]
  have hsm : smallI 4 = true := by decide
  unfold m_law
  simp [e1, t1, c1, h3, h4, w1, w2, w3, c2, c3, hsm]
  refine RS.wp_seq (forD_wp (fun i env o => ∃ s' x2 x3 x4 x5 x6 x7 x8 x9 x10 x11 x12 x13 x14 x15 x16 x17 x18 x19 x20 x21 x22 x23 x24, env = [.v (.loc ns), .v (.obj 1), x2, x3, x4, x5, x6, x7, x8, x9, x10, x11, x12, x13, x14, x15, x16, x17, x18, x19, x20, x21, x22, x23, x24] ∧ o = tp s' [] ∧ 0 ≤ s'.k) (i := 0) ⟨s, .un, .un, .un, .un, .un, .un, .un, .un, .un, .un, .un, .un, .un, .un, .un, .un, .un, .un, .un, .un, .un, .un, .un, rfl, rfl, k1⟩ ?_ ?_)
  · rintro i d env o hi ⟨s', x2, x3, x4, x5, x6, x7, x8, x9, x10, x11, x12, x13, x14, x15, x16, x17, x18, x19, x20, x21, x22, x23, x24, rfl, rfl, k⟩
    refine ⟨_, rfl, ?_⟩
    exact turn_ok n s' k _ (.v (.loc ns)) (.v d) x3 x4 x5 x6 x7 x8 x9 x10 x11 x12 x13 x14 x15 x16 x17 x18 x19 x20 x21 x22 x23 x24 fun s'' y3 y4 y5 y6 y7 y8 y9 y10 y11 y12 y13 y14 y15 y16 y17 y18 y19 y20 y21 y22 y23 y24 k' => ⟨s'', _, _, _, _, _, _, _, _, _, _, _, _, _, _, _, _, _, _, _, _, _, _, _, rfl, rfl, k'⟩
  · rintro env o ⟨s', x2, x3, x4, x5, x6, x7, x8, x9, x10, x11, x12, x13, x14, x15, x16, x17, x18, x19, x20, x21, x22, x23, x24, rfl, rfl, k⟩
    simp
theorem law_holds : ∀ ns : List Int, ns.length ≤ 63 → ∃ o, runFn e_law (Q.call lawM lawN) (fun x => Q.gl.lookup x) lawM [.loc ns] [] = .ok (.bl true) o := by
  intro ns _
  have h := R.wp_eq (endR_wp (P := fun d _ => d = .bl true) (RS.wp_imp (law_ok 23 ns) (fun _ _ h => h.elim) (fun _ _ h => h) (fun _ _ h => h) (fun _ _ h => h)))
  obtain ⟨a, o, e, rfl⟩ := h
  refine ⟨o, ?_⟩
  rw [show Q.call lawM lawN = Fc (23 + 7) from (Fc_eq 30).symm]
  exact (runFn_eq (f := e_law) (Φ := Fc (23 + 7)) (G := Gl) (N := lawM) (ds := [.loc ns]) (o := []) rfl).trans e
end Mp

open PySem PySem.W PyProof.Rows
set_option maxRecDepth 100000 in
set_option maxHeartbeats 0 in
theorem PySem.Challenge.cw_wireagreed_k13_whole_how_far_clocks_diff_holds : PySem.Challenge.rw_wireagreed_k13_whole_how_far_clocks_diff.Holds := by
  w_on; o_law; k_head; (case hw => w_witness2)
  k_fill
  refine Mp.law_walk (l := PySem.Challenge.rw_wireagreed_k13_whole_how_far_clocks_diff) (st := Mp.top 42) (e := Mp.e_law) (fs := Mp.fs) (bs := Mp.bs) (cs := Mp.cs) (Q := Mp.Q) (n := Mp.lawN) (M := Mp.lawM) rfl rfl rfl ⟨by decide, by decide, by decide⟩ (fun w h Y => PySem.W.kIn_of Y) (by decide +kernel) rfl (by decide +kernel) Mp.d_law Mp.law_holds ?F
  case F =>
    intro w mg h KX G
    refine' Mp.ready_mk KX G (Mp.known ?mpd0a ?mpd0l ?mpd0c ?mpd0k) (Mp.known ?mpd1a ?mpd1l ?mpd1c ?mpd1k) (Mp.known ?mpd2a ?mpd2l ?mpd2c ?mpd2k) (Mp.known ?mpd3a ?mpd3l ?mpd3c ?mpd3k) (Mp.known ?mpd4a ?mpd4l ?mpd4c ?mpd4k) (Mp.known ?mpd5a ?mpd5l ?mpd5c ?mpd5k) (Mp.known ?mpd6a ?mpd6l ?mpd6c ?mpd6k) (Mp.known ?mpd7a ?mpd7l ?mpd7c ?mpd7k) (Mp.known ?mpd8a ?mpd8l ?mpd8c ?mpd8k) (Mp.known ?mpd9a ?mpd9l ?mpd9c ?mpd9k) (Mp.known ?mpd10a ?mpd10l ?mpd10c ?mpd10k) (Mp.known ?mpd11a ?mpd11l ?mpd11c ?mpd11k) (Mp.known ?mpd12a ?mpd12l ?mpd12c ?mpd12k) (Mp.known ?mpd13a ?mpd13l ?mpd13c ?mpd13k) (Mp.known ?mpd14a ?mpd14l ?mpd14c ?mpd14k) (Mp.known ?mpd15a ?mpd15l ?mpd15c ?mpd15k) (Mp.known ?mpd16a ?mpd16l ?mpd16c ?mpd16k) (Mp.known ?mpd17a ?mpd17l ?mpd17c ?mpd17k) (Mp.known ?mpd18a ?mpd18l ?mpd18c ?mpd18k) (Mp.known ?mpd19a ?mpd19l ?mpd19c ?mpd19k) (Mp.known ?mpd20a ?mpd20l ?mpd20c ?mpd20k) (Mp.known ?mpd21a ?mpd21l ?mpd21c ?mpd21k) (Mp.known ?mpd22a ?mpd22l ?mpd22c ?mpd22k) (Mp.known ?mpd23a ?mpd23l ?mpd23c ?mpd23k) (Mp.known ?mpd24a ?mpd24l ?mpd24c ?mpd24k) (Mp.known ?mpd25a ?mpd25l ?mpd25c ?mpd25k) (Mp.known ?mpd26a ?mpd26l ?mpd26c ?mpd26k) (Mp.known ?mpd27a ?mpd27l ?mpd27c ?mpd27k) (Mp.known ?mpd28a ?mpd28l ?mpd28c ?mpd28k) (Mp.known ?mpd29a ?mpd29l ?mpd29c ?mpd29k) (Mp.known ?mpd30a ?mpd30l ?mpd30c ?mpd30k) (Mp.known ?mpd31a ?mpd31l ?mpd31c ?mpd31k) (Mp.gc ?mpg0a ?mpg0v) (Mp.gc ?mpg1a ?mpg1v) (Mp.gc ?mpg2a ?mpg2v) (Mp.gc ?mpg3a ?mpg3v) (Mp.gc ?mpg4a ?mpg4v) (Mp.gc ?mpg5a ?mpg5v) ?mpb0 ?mpb1 ?mpb2 ?mpb3 ?mpb4 ?mpb5 ?mpb6 ?mpb7 ?mpb8 ?mpb9 ?mpb10 ?mpb11
    (case mpd0a => k_is); (case mpd0l => k_is); (case mpd0c => k_is); (case mpd0k => k_is)
    (case mpd1a => k_is); (case mpd1l => k_is); (case mpd1c => k_is); (case mpd1k => k_is)
    (case mpd2a => k_is); (case mpd2l => k_is); (case mpd2c => k_is); (case mpd2k => k_is)
    (case mpd3a => k_is); (case mpd3l => k_is); (case mpd3c => k_is); (case mpd3k => k_is)
    (case mpd4a => k_is); (case mpd4l => k_is); (case mpd4c => k_is); (case mpd4k => k_is)
    (case mpd5a => k_is); (case mpd5l => k_is); (case mpd5c => k_is); (case mpd5k => k_is)
    (case mpd6a => k_is); (case mpd6l => k_is); (case mpd6c => k_is); (case mpd6k => k_is)
    (case mpd7a => k_is); (case mpd7l => k_is); (case mpd7c => k_is); (case mpd7k => k_is)
    (case mpd8a => k_is); (case mpd8l => k_is); (case mpd8c => k_is); (case mpd8k => k_is)
    (case mpd9a => k_is); (case mpd9l => k_is); (case mpd9c => k_is); (case mpd9k => k_is)
    (case mpd10a => k_is); (case mpd10l => k_is); (case mpd10c => k_is); (case mpd10k => k_is)
    (case mpd11a => k_is); (case mpd11l => k_is); (case mpd11c => k_is); (case mpd11k => k_is)
    (case mpd12a => k_is); (case mpd12l => k_is); (case mpd12c => k_is); (case mpd12k => k_is)
    (case mpd13a => k_is); (case mpd13l => k_is); (case mpd13c => k_is); (case mpd13k => k_is)
    (case mpd14a => k_is); (case mpd14l => k_is); (case mpd14c => k_is); (case mpd14k => k_is)
    (case mpd15a => k_is); (case mpd15l => k_is); (case mpd15c => k_is); (case mpd15k => k_is)
    (case mpd16a => k_is); (case mpd16l => k_is); (case mpd16c => k_is); (case mpd16k => k_is)
    (case mpd17a => k_is); (case mpd17l => k_is); (case mpd17c => k_is); (case mpd17k => k_is)
    (case mpd18a => k_is); (case mpd18l => k_is); (case mpd18c => k_is); (case mpd18k => k_is)
    (case mpd19a => k_is); (case mpd19l => k_is); (case mpd19c => k_is); (case mpd19k => k_is)
    (case mpd20a => k_is); (case mpd20l => k_is); (case mpd20c => k_is); (case mpd20k => k_is)
    (case mpd21a => k_is); (case mpd21l => k_is); (case mpd21c => k_is); (case mpd21k => k_is)
    (case mpd22a => k_is); (case mpd22l => k_is); (case mpd22c => k_is); (case mpd22k => k_is)
    (case mpd23a => k_is); (case mpd23l => k_is); (case mpd23c => k_is); (case mpd23k => k_is)
    (case mpd24a => k_is); (case mpd24l => k_is); (case mpd24c => k_is); (case mpd24k => k_is)
    (case mpd25a => k_is); (case mpd25l => k_is); (case mpd25c => k_is); (case mpd25k => k_is)
    (case mpd26a => k_is); (case mpd26l => k_is); (case mpd26c => k_is); (case mpd26k => k_is)
    (case mpd27a => k_is); (case mpd27l => k_is); (case mpd27c => k_is); (case mpd27k => k_is)
    (case mpd28a => k_is); (case mpd28l => k_is); (case mpd28c => k_is); (case mpd28k => k_is)
    (case mpd29a => k_is); (case mpd29l => k_is); (case mpd29c => k_is); (case mpd29k => k_is)
    (case mpd30a => k_is); (case mpd30l => k_is); (case mpd30c => k_is); (case mpd30k => k_is)
    (case mpd31a => k_is); (case mpd31l => k_is); (case mpd31c => k_is); (case mpd31k => k_is)
    (case mpg0a => k_is); (case mpg0v => refine' Mp.GV.tup ?t1l ?t1z ?t1h; (case t1l => k_is); (case t1z => exact Nat.le_of_ble_eq_true rfl); (case t1h => refine' (Mp.GVs.cons ?x1_0 (Mp.GVs.cons ?x1_1 Mp.GVs.nil)); (case x1_0 => exact Mp.GV.int _ _); (case x1_1 => exact Mp.GV.int _ _)))
    (case mpg1a => k_is); (case mpg1v => refine' Mp.GV.tup ?t2l ?t2z ?t2h; (case t2l => k_is); (case t2z => exact Nat.le_of_ble_eq_true rfl); (case t2h => refine' (Mp.GVs.cons ?x2_0 (Mp.GVs.cons ?x2_1 Mp.GVs.nil)); (case x2_0 => exact Mp.GV.int _ _); (case x2_1 => exact Mp.GV.int _ _)))
    (case mpg2a => k_is); (case mpg2v => exact Mp.GV.int _ _)
    (case mpg3a => k_is); (case mpg3v => exact Mp.GV.int _ _)
    (case mpg4a => k_is); (case mpg4v => exact Mp.GV.int _ _)
    (case mpg5a => k_is); (case mpg5v => refine' Mp.GV.tup ?t3l ?t3z ?t3h; (case t3l => k_is); (case t3z => exact Nat.le_of_ble_eq_true rfl); (case t3h => refine' (Mp.GVs.cons ?x3_0 (Mp.GVs.cons ?x3_1 (Mp.GVs.cons ?x3_2 (Mp.GVs.cons ?x3_3 (Mp.GVs.cons ?x3_4 (Mp.GVs.cons ?x3_5 (Mp.GVs.cons ?x3_6 (Mp.GVs.cons ?x3_7 (Mp.GVs.cons ?x3_8 (Mp.GVs.cons ?x3_9 Mp.GVs.nil)))))))))); (case x3_0 => exact Mp.GV.int _ _); (case x3_1 => exact Mp.GV.int _ _); (case x3_2 => exact Mp.GV.int _ _); (case x3_3 => exact Mp.GV.int _ _); (case x3_4 => exact Mp.GV.int _ _); (case x3_5 => exact Mp.GV.int _ _); (case x3_6 => exact Mp.GV.int _ _); (case x3_7 => exact Mp.GV.int _ _); (case x3_8 => exact Mp.GV.int _ _); (case x3_9 => exact Mp.GV.int _ _)))
    (case mpb0 => k_is)
    (case mpb1 => k_is)
    (case mpb2 => k_is)
    (case mpb3 => k_is)
    (case mpb4 => k_is)
    (case mpb5 => k_is)
    (case mpb6 => k_is)
    (case mpb7 => k_is)
    (case mpb8 => k_is)
    (case mpb9 => k_is)
    (case mpb10 => k_is)
    (case mpb11 => k_is)
#print axioms PySem.Challenge.cw_wireagreed_k13_whole_how_far_clocks_diff_holds
