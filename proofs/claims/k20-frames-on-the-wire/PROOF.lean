import PyProof.Rows.All
import Wide.All
import OpenK.AllK
import Wide.FinOn
import HandS.ForExc
import HandS.ForMost
import HandS.TupAny
import HandS.TupMul
import HandS.Style
import HandS.IsInst
import HandS.WordsDict
import HandS.Codes
import HandS.Wide
import HandS.SetFor
import HandS.SortInts
import HandS.Strs
import HandS.WordsExc
import HandS.ExcInit
import HandS.ExcField
import HandS.ExcCtx
import HandS.TryOnly
import KE.KExcSuper
import KE.GoesMore
import PyProof.Draws
import PyProof.EnumMake
import PySem.Challenge.RW_wireagreed_k20_whole_frames_on_the_wire
set_option Elab.async false
set_option linter.all false
set_option maxRecDepth 100000
/-! A small language over plain data trees, and how it lies over the hand layer: worlds, data, states. -/
namespace Mp
open PySem PySem.Spec PyProof.Rows L2

/-- plain data: what cannot change any more -/
inductive D where
  | non | bl (b : Bool) | int (i : Int) | str (x : Str) | ty (n : String)
  | tup (ds : List D) | lst (ds : List D) | dic (ks : List (Key × D)) | obj (n : Nat) | loc (ns : List Int)

/-- a slot of a def: not set, data, a list of the def's own that it changes in place -/
inductive Sl where
  | un | v (d : D) | ol (ds : List D) | od (ks : List (Key × D))
/-- an object: an instance (its class, its fields), a list that many hold, a dict that many hold -/
inductive Ob where
  | ins (c : Str) (fs : List (Str × D)) | ls (ds : List D) | dk (ks : List (Key × D))
abbrev Env := List Sl
abbrev Obs := List Ob

inductive R (α : Type) where
  | ok (a : α) (o : Obs) | ex (c : Str) (a : D) (o : Obs) | bad
inductive RS where
  | nx (e : Env) (o : Obs) | rt (d : D) (o : Obs) | bk (e : Env) (o : Obs) | ct (e : Env) (o : Obs) | ex (c : Str) (a : D) (e : Env) (o : Obs) | bad

def R.bind {α β : Type} (x : R α) (f : α → Obs → R β) : R β := match x with
  | .ok a o => f a o
  | .ex c a o => .ex c a o
  | .bad => .bad
/-- what raises is not followed -/
def R.noex {α : Type} : R α → R α
  | .ex _ _ _ => .bad
  | x => x
@[simp] theorem R.noex_ok {α : Type} (a : α) (o : Obs) : (R.ok a o).noex = .ok a o := (rfl)
@[simp] theorem R.noex_bad {α : Type} : (R.bad : R α).noex = .bad := (rfl)
@[simp] theorem R.noex_ex {α : Type} (c : Str) (a : D) (o : Obs) : (R.ex c a o : R α).noex = .bad := (rfl)
def R.opt {α : Type} (o : Obs) : Option α → R α
  | some a => .ok a o
  | none => .bad
def R.map {α β : Type} (f : α → β) (x : R α) : R β := x.bind fun a o => .ok (f a) o
@[simp] theorem R.bind_ok {α β : Type} (a : α) (o : Obs) (f : α → Obs → R β) : (R.ok a o).bind f = f a o := (rfl)
@[simp] theorem R.bind_bad {α β : Type} (f : α → Obs → R β) : (R.bad : R α).bind f = .bad := (rfl)
@[simp] theorem R.bind_ex {α β : Type} (c : Str) (a : D) (o : Obs) (f : α → Obs → R β) : (R.ex c a o : R α).bind f = .ex c a o := (rfl)
@[simp] theorem R.opt_some {α : Type} (a : α) (o : Obs) : R.opt o (some a) = .ok a o := (rfl)
@[simp] theorem R.opt_none {α : Type} (o : Obs) : (R.opt o none : R α) = .bad := (rfl)
@[simp] theorem R.map_ok {α β : Type} (a : α) (o : Obs) (f : α → β) : (R.ok a o).map f = .ok (f a) o := (rfl)
@[simp] theorem R.map_bad {α β : Type} (f : α → β) : (R.bad : R α).map f = .bad := (rfl)
@[simp] theorem R.map_ex {α β : Type} (c : Str) (a : D) (o : Obs) (f : α → β) : (R.ex c a o : R α).map f = .ex c a o := (rfl)


/-! ### worlds -/
/-- what an address is for: data that stands, a list of the slot i, a list being made, a part of an object, what callers hold -/
inductive Role where
  | fro (o : HO) | own (i : Nat) | acc | ob (n : Nat) | dx (n : Nat) | keep (o : HO)
def Role.loose : Role → Bool
  | .own _ => true | .acc => true | _ => false
def Role.solid : Role → Bool
  | .own _ => false | .acc => false | .keep _ => false | _ => true
theorem Role.solid_loose {r : Role} (h : r.solid = true) : r.loose = false := by cases r <;> first | rfl | (simp [Role.solid] at h)
structure Wd where
  ρ : Addr → Option Role
  A : List Addr
def Wd.F (W : Wd) : Hp := fun p => match W.ρ p with | some (.fro o) => some o | _ => none
def Wd.put (W : Wd) (p : Addr) (r : Role) : Wd := { W with ρ := fun q => if q = p then some r else W.ρ q }
theorem Wd.put_same {W : Wd} {p : Addr} {r : Role} : (W.put p r).ρ p = some r := by simp [Wd.put]
theorem Wd.put_ne {W : Wd} {p q : Addr} {r : Role} (h : q ≠ p) : (W.put p r).ρ q = W.ρ q := by simp [Wd.put, h]
theorem Wd.F_of {W : Wd} {p : Addr} {o : HO} : W.F p = some o ↔ W.ρ p = some (.fro o) := by
  unfold Wd.F
  cases h : W.ρ p with
  | none => simp
  | some r => cases r <;> simp

/-- data that stands keeps standing, objects keep their addresses -/
structure Wd.dle (W W' : Wd) : Prop where
  f : ∀ p o, W.ρ p = some (.fro o) → W'.ρ p = some (.fro o)
  a : ∀ (n : Nat) p, W.A[n]? = some p → W'.A[n]? = some p
theorem Wd.dle.refl {W : Wd} : W.dle W := ⟨fun _ _ h => h, fun _ _ h => h⟩
theorem Wd.dle.trans {W W1 W2 : Wd} (a : W.dle W1) (b : W1.dle W2) : W.dle W2 := ⟨fun p o h => b.f p o (a.f p o h), fun n p h => b.a n p (a.a n p h)⟩

section
variable (K : PySem.W.Frag)
mutual
inductive Rep (F : Hp) (A : List Addr) : V → D → Prop
  | non : Rep F A .non .non
  | bl (b : Bool) : Rep F A (.bl b) (.bl b)
  | int (i : Int) : Rep F A (.int i) (.int i)
  | str (x : Str) : Rep F A (.str x) (.str x)
  | ty (n : String) : Rep F A (.ty n) (.ty n)
  | tup {p : Addr} {vs : List V} {ds : List D} : SqT K F p vs → Reps F A vs ds → Rep F A (.ref p) (.tup ds)
  | lst {p : Addr} {vs : List V} {ds : List D} : F p = some (.lst vs) → Reps F A vs ds → Rep F A (.ref p) (.lst ds)
  | loc {p : Addr} {ns : List Int} : SqL K F p (ns.map V.int) → Rep F A (.ref p) (.loc ns)
  | dic {p : Addr} {vs : List (Key × V)} {ds : List (Key × D)} : F p = some (.dK vs) → vs.map (·.1) = ds.map (·.1) → Reps F A (vs.map (·.2)) (ds.map (·.2)) → Rep F A (.ref p) (.dic ds)
  | obj {p : Addr} {n : Nat} : A[n]? = some p → Rep F A (.ref p) (.obj n)
inductive Reps (F : Hp) (A : List Addr) : List V → List D → Prop
  | nil : Reps F A [] []
  | cons {v : V} {vs : List V} {d : D} {ds : List D} : Rep F A v d → Reps F A vs ds → Reps F A (v :: vs) (d :: ds)
end
end

theorem SqL.mono {K : PySem.W.Frag} {F F' : Hp} {p : Addr} {vs : List V} (h : SqL K F p vs) (m : ∀ p o, F p = some o → F' p = some o) : SqL K F' p vs := by
  rcases h with (h | ⟨o, h⟩) | h
  · exact .inl (.inl (m _ _ h))
  · exact .inl (.inr ⟨o, m _ _ h⟩)
  · exact .inr h
theorem SqT.mono {K : PySem.W.Frag} {F F' : Hp} {p : Addr} {vs : List V} (h : SqT K F p vs) (m : ∀ p o, F p = some o → F' p = some o) : SqT K F' p vs := by
  rcases h with (h | ⟨o, h⟩) | h
  · exact .inl (.inl (m _ _ h))
  · exact .inl (.inr ⟨o, m _ _ h⟩)
  · exact .inr h

section
variable {K : PySem.W.Frag}
mutual
theorem Rep.mono {F F' : Hp} {A A' : List Addr} (m : ∀ p o, F p = some o → F' p = some o) (a : ∀ (n : Nat) p, A[n]? = some p → A'[n]? = some p) : ∀ {v : V} {d : D}, Rep K F A v d → Rep K F' A' v d
  | _, _, .non => .non
  | _, _, .bl b => .bl b
  | _, _, .int i => .int i
  | _, _, .str x => .str x
  | _, _, .ty n => .ty n
  | _, _, .tup h r => .tup (SqT.mono h m) (Reps.mono m a r)
  | _, _, .lst h r => .lst (m _ _ h) (Reps.mono m a r)
  | _, _, .loc h => .loc (SqL.mono h m)
  | _, _, .dic h e r => .dic (m _ _ h) e (Reps.mono m a r)
  | _, _, .obj h => .obj (a _ _ h)
theorem Reps.mono {F F' : Hp} {A A' : List Addr} (m : ∀ p o, F p = some o → F' p = some o) (a : ∀ (n : Nat) p, A[n]? = some p → A'[n]? = some p) : ∀ {vs : List V} {ds : List D}, Reps K F A vs ds → Reps K F' A' vs ds
  | _, _, .nil => .nil
  | _, _, .cons h r => .cons (Rep.mono m a h) (Reps.mono m a r)
end
end

abbrev Wd.rep (K : PySem.W.Frag) (W : Wd) (v : V) (d : D) : Prop := Rep K W.F W.A v d
abbrev Wd.reps (K : PySem.W.Frag) (W : Wd) (vs : List V) (ds : List D) : Prop := Reps K W.F W.A vs ds
section
variable {K : PySem.W.Frag} {W W' : Wd}
theorem Wd.dle.F (l : W.dle W') : ∀ p o, W.F p = some o → W'.F p = some o := fun p o h => Wd.F_of.mpr (l.f p o (Wd.F_of.mp h))
theorem Wd.dle.rep (l : W.dle W') {v : V} {d : D} (h : W.rep K v d) : W'.rep K v d := Rep.mono l.F l.a h
theorem Wd.dle.reps (l : W.dle W') {vs : List V} {ds : List D} (h : W.reps K vs ds) : W'.reps K vs ds := Reps.mono l.F l.a h
end
section
variable {K : PySem.W.Frag} {F : Hp} {A : List Addr}
theorem Reps.length : ∀ {vs : List V} {ds : List D}, Reps K F A vs ds → vs.length = ds.length
  | _, _, .nil => rfl
  | _, _, .cons _ r => by simp [Reps.length r]
theorem Reps.get : ∀ {vs : List V} {ds : List D} {i : Nat} {d : D}, Reps K F A vs ds → ds[i]? = some d → ∃ v, vs[i]? = some v ∧ Rep K F A v d
  | _, _, _, _, .nil, e => by simp at e
  | _, _, 0, _, .cons h _, e => by simp at e; subst e; exact ⟨_, rfl, h⟩
  | _, _, i + 1, _, .cons _ r, e => by
    obtain ⟨v, h1, h2⟩ := Reps.get (i := i) r (by simpa using e)
    exact ⟨v, by simpa using h1, h2⟩
theorem Reps.get' : ∀ {vs : List V} {ds : List D} {i : Nat} {v : V}, Reps K F A vs ds → vs[i]? = some v → ∃ d, ds[i]? = some d ∧ Rep K F A v d
  | _, _, _, _, .nil, e => by simp at e
  | _, _, 0, _, .cons h _, e => by simp at e; subst e; exact ⟨_, rfl, h⟩
  | _, _, i + 1, _, .cons _ r, e => by
    obtain ⟨v, h1, h2⟩ := Reps.get' (i := i) r (by simpa using e)
    exact ⟨v, by simpa using h1, h2⟩
theorem Reps.append : ∀ {vs us : List V} {ds es : List D}, Reps K F A vs ds → Reps K F A us es → Reps K F A (vs ++ us) (ds ++ es)
  | _, _, _, _, .nil, s => s
  | _, _, _, _, .cons h r, s => .cons h (Reps.append r s)
theorem Reps.take : ∀ {vs : List V} {ds : List D} (n : Nat), Reps K F A vs ds → Reps K F A (vs.take n) (ds.take n)
  | _, _, 0, _ => .nil
  | _, _, _ + 1, .nil => .nil
  | _, _, n + 1, .cons h r => .cons h (Reps.take n r)
theorem Reps.drop : ∀ {vs : List V} {ds : List D} (n : Nat), Reps K F A vs ds → Reps K F A (vs.drop n) (ds.drop n)
  | _, _, 0, r => r
  | _, _, _ + 1, .nil => .nil
  | _, _, n + 1, .cons _ r => Reps.drop n r
theorem Reps.reverse {vs : List V} {ds : List D} (h : Reps K F A vs ds) : Reps K F A vs.reverse ds.reverse := by
  induction h using Reps.rec (motive_1 := fun _ _ _ => True) with
  | nil => exact .nil
  | cons h r _ ih => rw [List.reverse_cons, List.reverse_cons]; exact ih.append (.cons h .nil)
  | _ => trivial
theorem Reps.set : ∀ {vs : List V} {ds : List D} {v : V} {d : D} (i : Nat), Rep K F A v d → Reps K F A vs ds → Reps K F A (vs.set i v) (ds.set i d)
  | _, _, _, _, _, _, .nil => .nil
  | _, _, _, _, 0, q, .cons _ r => .cons q r
  | _, _, _, _, i + 1, q, .cons h r => .cons h (Reps.set i q r)
theorem Reps.eraseIdx : ∀ {vs : List V} {ds : List D} (i : Nat), Reps K F A vs ds → Reps K F A (vs.eraseIdx i) (ds.eraseIdx i)
  | _, _, _, .nil => .nil
  | _, _, 0, .cons _ r => r
  | _, _, i + 1, .cons h r => .cons h (Reps.eraseIdx i r)
theorem Reps.one {v : V} {d : D} (h : Rep K F A v d) : Reps K F A [v] [d] := .cons h .nil
theorem Reps.ints : ∀ (ns : List Int), Reps K F A (ns.map V.int) (ns.map D.int)
  | [] => .nil
  | n :: ns => .cons (.int n) (Reps.ints ns)
theorem Reps.strs : ∀ (ns : List Str), Reps K F A (ns.map V.str) (ns.map D.str)
  | [] => .nil
  | n :: ns => .cons (.str n) (Reps.strs ns)
theorem Reps.to_ints : ∀ {ns : List Int} {vs : List V}, Reps K F A vs (ns.map D.int) → vs = ns.map V.int
  | [], _, .nil => rfl
  | _ :: ns, _, .cons h r => by cases h; rw [Reps.to_ints r, List.map_cons]
theorem Reps.to_bls : ∀ {ns : List Bool} {vs : List V}, Reps K F A vs (ns.map D.bl) → vs = ns.map V.bl
  | [], _, .nil => rfl
  | _ :: ns, _, .cons h r => by cases h; rw [Reps.to_bls r, List.map_cons]
theorem Reps.to_strs : ∀ {ns : List Str} {vs : List V}, Reps K F A vs (ns.map D.str) → vs = ns.map V.str
  | [], _, .nil => rfl
  | _ :: ns, _, .cons h r => by cases h; rw [Reps.to_strs r, List.map_cons]
theorem Rep.to_int {v : V} {i : Int} (h : Rep K F A v (.int i)) : v = .int i := by cases h; rfl
theorem Rep.to_str {v : V} {x : Str} (h : Rep K F A v (.str x)) : v = .str x := by cases h; rfl
theorem Rep.to_bl {v : V} {x : Bool} (h : Rep K F A v (.bl x)) : v = .bl x := by cases h; rfl
theorem Rep.to_non {v : V} (h : Rep K F A v .non) : v = .non := by cases h; rfl
theorem Rep.to_tup {v : V} {ds : List D} (h : Rep K F A v (.tup ds)) : ∃ p vs, v = .ref p ∧ SqT K F p vs ∧ Reps K F A vs ds := by cases h with | tup a b => exact ⟨_, _, rfl, a, b⟩
theorem Rep.to_lst {v : V} {ds : List D} (h : Rep K F A v (.lst ds)) : ∃ p vs, v = .ref p ∧ F p = some (.lst vs) ∧ Reps K F A vs ds := by cases h with | lst a b => exact ⟨_, _, rfl, a, b⟩
theorem Rep.to_obj {v : V} {n : Nat} (h : Rep K F A v (.obj n)) : ∃ p, v = .ref p ∧ A[n]? = some p := by cases h with | obj a => exact ⟨_, rfl, a⟩
theorem Rep.to_ty {v : V} {n : String} (h : Rep K F A v (.ty n)) : v = .ty n := by cases h; rfl
end

/-! ### states -/
section
variable (K : PySem.W.Frag) (CA : Str → Option Addr)
def ObR (W : Wd) (H : Hp) (n : Nat) (p : Addr) : Ob → Prop
  | .ins c fs => ∃ C dx vs, CA c = some C ∧ H p = some (.ins C dx vs) ∧ W.ρ dx = some (.dx n) ∧ H dx = some (.own p) ∧ vs.map (·.1) = fs.map (·.1) ∧ W.reps K (vs.map (·.2)) (fs.map (·.2))
  | .ls ds => ∃ vs, H p = some (.lst vs) ∧ W.reps K vs ds
  | .dk ks => ∃ vs, H p = some (.dK vs) ∧ vs.map (·.1) = ks.map (·.1) ∧ W.reps K (vs.map (·.2)) (ks.map (·.2))
/-- the heap's side of a state -/
structure HRel (W : Wd) (H : Hp) (obs : Obs) : Prop where
  fro : ∀ p o, W.ρ p = some (.fro o) → H p = some o
  keep : ∀ p o, W.ρ p = some (.keep o) → H p = some o
  live : ∀ p r, W.ρ p = some r → ∃ o, H p = some o
  len : W.A.length = obs.length
  obs : ∀ n ob, obs[n]? = some ob → ∃ p, W.A[n]? = some p ∧ W.ρ p = some (.ob n) ∧ ObR K CA W H n p ob
def SlR (W : Wd) (H : Hp) (i : Nat) (ov : Option V) : Sl → Prop
  | .un => True
  | .v d => ∃ v, ov = some v ∧ W.rep K v d
  | .ol ds => ∃ p vs, ov = some (.ref p) ∧ W.ρ p = some (.own i) ∧ H p = some (.lst vs) ∧ W.reps K vs ds
  | .od ks => ∃ p vs, ov = some (.ref p) ∧ W.ρ p = some (.own i) ∧ H p = some (.dK vs) ∧ vs.map (·.1) = ks.map (·.1) ∧ W.reps K (vs.map (·.2)) (ks.map (·.2))
structure SRel (W : Wd) (σ : L2.St) (H : Hp) (env : Env) (obs : Obs) : Prop where
  h : HRel K CA W H obs
  len : σ.length = env.length
  sl : ∀ i s, env[i]? = some s → SlR K W H i ((σ[i]?).join) s
end

/-- behind an expression: all roles stay, lists of one's own are as they were -/
structure Wd.leE (W W' : Wd) (H H' : Hp) : Prop where
  r : ∀ p r, W.ρ p = some r → W'.ρ p = some r
  o : ∀ p r, W.ρ p = some r → r.loose = true → H' p = H p
  a : ∀ (n : Nat) p, W.A[n]? = some p → W'.A[n]? = some p
/-- behind a call, as its caller sees it: the data and the objects stay -/
structure Wd.leO (W W' : Wd) : Prop where
  r : ∀ p r, W.ρ p = some r → r.solid = true → W'.ρ p = some r
  a : ∀ (n : Nat) p, W.A[n]? = some p → W'.A[n]? = some p
/-- behind a statement: all roles stay but loose ones -/
structure Wd.leS (W W' : Wd) : Prop where
  r : ∀ p r, W.ρ p = some r → r.loose = false → W'.ρ p = some r
  a : ∀ (n : Nat) p, W.A[n]? = some p → W'.A[n]? = some p
section
variable {W W1 W2 W' : Wd} {H H1 H2 H' : Hp}
theorem Wd.leE.refl : W.leE W H H := ⟨fun _ _ h => h, fun _ _ _ _ => rfl, fun _ _ h => h⟩
theorem Wd.leE.trans (a : W.leE W1 H H1) (b : W1.leE W2 H1 H2) : W.leE W2 H H2 :=
  ⟨fun p r h => b.r p r (a.r p r h), fun p r h l => (b.o p r (a.r p r h) l).trans (a.o p r h l), fun n p h => b.a n p (a.a n p h)⟩
theorem Wd.leE.s (a : W.leE W' H H') : W.leS W' := ⟨fun p r h _ => a.r p r h, a.a⟩
theorem Wd.leS.refl : W.leS W := ⟨fun _ _ h _ => h, fun _ _ h => h⟩
theorem Wd.leS.trans (a : W.leS W1) (b : W1.leS W2) : W.leS W2 := ⟨fun p r h l => b.r p r (a.r p r h l) l, fun n p h => b.a n p (a.a n p h)⟩
theorem Wd.leS.o (a : W.leS W') : W.leO W' := ⟨fun p r h l => a.r p r h (Role.solid_loose l), a.a⟩
theorem Wd.leO.d (a : W.leO W') : W.dle W' := ⟨fun p o h => a.r p _ h rfl, a.a⟩
theorem Wd.leS.d (a : W.leS W') : W.dle W' := a.o.d
theorem Wd.leE.d (a : W.leE W' H H') : W.dle W' := a.s.d
end
end Mp

set_option Elab.async false
set_option linter.all false
set_option maxRecDepth 100000
/-! States: what may be done to them; the readings of expressions and statements over data. -/
namespace Mp
open PySem PySem.Spec PyProof.Rows L2

section
variable {K : PySem.W.Frag} {CA : Str → Option Addr} {W W' : Wd} {H H' : Hp} {obs obs' : Obs} {env : Env} {σ : L2.St} {p : Addr}

theorem ObR.mono {n : Nat} {ob : Ob} (l : W.leO W') (hr : W.ρ p = some (.ob n)) (hh : ∀ q r, W.ρ q = some r → r = .ob n ∨ r = .dx n → H' q = H q) (h : ObR K CA W H n p ob) : ObR K CA W' H' n p ob := by
  cases ob with
  | ins c fs =>
    obtain ⟨C, dx, vs, e1, e2, e3, e4, e5, e6⟩ := h
    exact ⟨C, dx, vs, e1, (hh p _ hr (.inl rfl)).trans e2, l.r dx _ e3 rfl, (hh dx _ e3 (.inr rfl)).trans e4, e5, l.d.reps e6⟩
  | ls fs =>
    obtain ⟨vs, e2, e6⟩ := h
    exact ⟨vs, (hh p _ hr (.inl rfl)).trans e2, l.d.reps e6⟩
  | dk ks =>
    obtain ⟨vs, e2, e3, e6⟩ := h
    exact ⟨vs, (hh p _ hr (.inl rfl)).trans e2, e3, l.d.reps e6⟩
theorem HRel.fresh (h : HRel K CA W H obs) (e : H p = none) : W.ρ p = none := by
  cases q : W.ρ p with
  | none => rfl
  | some r => obtain ⟨o, z⟩ := h.live p r q; rw [e] at z; cases z
/-- a world with more roles, a heap that keeps what has a role -/
theorem HRel.mono (h : HRel K CA W H obs) (l : ∀ p r, W.ρ p = some r → W'.ρ p = some r) (ha : W'.A = W.A) (hh : ∀ p r, W.ρ p = some r → H' p = H p)
    (nf : ∀ p o, W'.ρ p = some (.fro o) → W.ρ p = none → H' p = some o) (nk : ∀ p o, W'.ρ p = some (.keep o) → W.ρ p = none → H' p = some o) (nl : ∀ p r, W'.ρ p = some r → W.ρ p = none → ∃ o, H' p = some o) : HRel K CA W' H' obs := by
  have ls : W.leO W' := ⟨fun p r e _ => l p r e, fun n p e => by rw [ha]; exact e⟩
  refine ⟨fun p o e => ?_, fun p o e => ?_, fun p r e => ?_, by rw [ha]; exact h.len, fun n ob e => ?_⟩
  · cases q : W.ρ p with
    | none => exact nf p o e q
    | some r =>
      have := l p r q; rw [e] at this; cases this
      exact (hh p _ q).trans (h.fro p o q)
  · cases q : W.ρ p with
    | none => exact nk p o e q
    | some r =>
      have := l p r q; rw [e] at this; cases this
      exact (hh p _ q).trans (h.keep p o q)
  · cases q : W.ρ p with
    | none => exact nl p r e q
    | some r' =>
      obtain ⟨o, z⟩ := h.live p r' q
      exact ⟨o, (hh p _ q).trans z⟩
  · obtain ⟨p, a1, a2, a3⟩ := h.obs n ob e
    exact ⟨p, by rw [ha]; exact a1, l p _ a2, a3.mono ls a2 fun q r z _ => hh q r z⟩
theorem SlR.mono {i : Nat} {ov : Option V} {s : Sl} (l : W.dle W') (hr : ∀ p, W.ρ p = some (.own i) → W'.ρ p = some (.own i) ∧ H' p = H p) (h : SlR K W H i ov s) : SlR K W' H' i ov s := by
  cases s with
  | un => trivial
  | v d => obtain ⟨v, e, r⟩ := h; exact ⟨v, e, l.rep r⟩
  | ol ds =>
    obtain ⟨p, vs, e, r, hp, q⟩ := h
    exact ⟨p, vs, e, (hr p r).1, (hr p r).2.trans hp, l.reps q⟩
  | od ks =>
    obtain ⟨p, vs, e, r, hp, q, z⟩ := h
    exact ⟨p, vs, e, (hr p r).1, (hr p r).2.trans hp, q, l.reps z⟩
/-- a new role for a new address -/
theorem SRel.add {r : Role} {o : HO} (h : SRel K CA W σ H env obs) (hp : H p = none) (hf : ∀ u, r = .fro u → u = o) (hk : ∀ u, r ≠ .keep u) : SRel K CA (W.put p r) σ (upd H p o) env obs := by
  have n := h.h.fresh hp
  have ne : ∀ q r', W.ρ q = some r' → q ≠ p := fun q r' e z => by rw [z, n] at e; cases e
  have hu : ∀ q r', W.ρ q = some r' → upd H p o q = H q := fun q r' e => upd_ne (ne q r' e)
  have hl : ∀ q r', W.ρ q = some r' → (W.put p r).ρ q = some r' := fun q r' e => by rw [Wd.put_ne (ne q r' e)]; exact e
  have new : ∀ q r', (W.put p r).ρ q = some r' → W.ρ q = none → q = p ∧ r' = r := fun q r' e z => by
    by_cases hq : q = p
    · subst hq; rw [Wd.put_same] at e; exact ⟨rfl, (Option.some.inj e).symm⟩
    · rw [Wd.put_ne hq, z] at e; cases e
  refine ⟨h.h.mono hl rfl hu (fun q u e z => ?_) (fun q u e z => ?_) (fun q u e z => ?_), h.len, fun i s e => ?_⟩
  · obtain ⟨rfl, e2⟩ := new q _ e z
    rw [upd_same, hf u e2.symm]
  · obtain ⟨rfl, e2⟩ := new q _ e z
    exact absurd e2.symm (hk u)
  · obtain ⟨rfl, _⟩ := new q _ e z
    exact ⟨o, upd_same⟩
  · exact SlR.mono ⟨fun q u z => hl q _ z, fun _ _ z => z⟩ (fun q z => ⟨hl q _ z, hu q _ z⟩) (h.sl i s e)
theorem leE_add {r : Role} {o : HO} (n : W.ρ p = none) : W.leE (W.put p r) H (upd H p o) := by
  have ne : ∀ q r', W.ρ q = some r' → q ≠ p := fun q r' e z => by rw [z, n] at e; cases e
  exact ⟨fun q r' e => by rw [Wd.put_ne (ne q r' e)]; exact e, fun q r' e _ => upd_ne (ne q r' e), fun _ _ e => e⟩
/-- a new object -/
theorem SRel.onew {o : HO} {ob : Ob} (h : SRel K CA W σ H env obs) (hp : H p = none) (hb : ∀ W' : Wd, W.dle W' → W'.ρ p = some (.ob obs.length) → ObR K CA W' (upd H p o) obs.length p ob) :
    ∃ W', W.leE W' H (upd H p o) ∧ SRel K CA W' σ (upd H p o) env (obs ++ [ob]) ∧ W'.A[obs.length]? = some p := by
  have n := h.h.fresh hp
  let W1 : Wd := ⟨(W.put p (.ob obs.length)).ρ, W.A ++ [p]⟩
  have ne : ∀ q r', W.ρ q = some r' → q ≠ p := fun q r' e z => by rw [z, n] at e; cases e
  have hu : ∀ q r', W.ρ q = some r' → upd H p o q = H q := fun q r' e => upd_ne (ne q r' e)
  have hl : ∀ q r', W.ρ q = some r' → W1.ρ q = some r' := fun q r' e => by
    show (W.put p (.ob obs.length)).ρ q = _
    rw [Wd.put_ne (ne q r' e)]; exact e
  have new : ∀ q r', W1.ρ q = some r' → W.ρ q = some r' ∨ (q = p ∧ r' = .ob obs.length) := fun q r' e => by
    have e : (W.put p (.ob obs.length)).ρ q = some r' := e
    by_cases hq : q = p
    · subst hq; rw [Wd.put_same] at e; exact .inr ⟨rfl, (Option.some.inj e).symm⟩
    · rw [Wd.put_ne hq] at e; exact .inl e
  have hA : ∀ (m : Nat) q, W.A[m]? = some q → (W.A ++ [p])[m]? = some q := fun m q e => by
    rw [List.getElem?_append_left (List.getElem?_eq_some_iff.mp e).1]; exact e
  have le : W.leE W1 H (upd H p o) := ⟨hl, fun q r' e _ => hu q r' e, hA⟩
  have hp1 : W1.ρ p = some (.ob obs.length) := Wd.put_same
  have hAn : (W.A ++ [p])[obs.length]? = some p := by rw [← h.h.len, List.getElem?_append_right (Nat.le_refl _)]; simp
  refine ⟨W1, le, ⟨⟨fun q u e => ?_, fun q u e => ?_, fun q u e => ?_, by simp [W1, h.h.len], fun m ob' e => ?_⟩, h.len, fun i s e => ?_⟩, hAn⟩
  · rcases new q _ e with e | ⟨_, e⟩
    · exact (hu q _ e).trans (h.h.fro q u e)
    · cases e
  · rcases new q _ e with e | ⟨_, e⟩
    · exact (hu q _ e).trans (h.h.keep q u e)
    · cases e
  · rcases new q _ e with e | ⟨rfl, _⟩
    · obtain ⟨z, hz⟩ := h.h.live q u e
      exact ⟨z, (hu q _ e).trans hz⟩
    · exact ⟨o, upd_same⟩
  · by_cases hm : m < obs.length
    · rw [List.getElem?_append_left hm] at e
      obtain ⟨q, a1, a2, a3⟩ := h.h.obs m ob' e
      exact ⟨q, hA m q a1, hl q _ a2, a3.mono le.s.o a2 fun q r z _ => hu q r z⟩
    · have hm' : m = obs.length := by
        have := (List.getElem?_eq_some_iff.mp e).1
        simp at this; omega
      subst hm'
      rw [List.getElem?_append_right (Nat.le_refl _)] at e
      simp at e; subst e
      exact ⟨p, hAn, hp1, hb W1 le.d hp1⟩
  · exact SlR.mono le.d (fun q z => ⟨hl q _ z, hu q _ z⟩) (h.sl i s e)
/-- an object is written -/
theorem SRel.owrite {n : Nat} {o : HO} {ob : Ob} (h : SRel K CA W σ H env obs) (hA : W.A[n]? = some p) (hn : n < obs.length) (hb : ObR K CA W (upd H p o) n p ob) :
    SRel K CA W σ (upd H p o) env (obs.set n ob) ∧ W.leE W H (upd H p o) := by
  have hr : W.ρ p = some (.ob n) := by
    obtain ⟨q, a1, a2, _⟩ := h.h.obs n obs[n] (List.getElem?_eq_getElem hn)
    rw [hA] at a1; cases a1; exact a2
  have ne : ∀ q r', W.ρ q = some r' → r' ≠ .ob n → q ≠ p := fun q r' e l z => by rw [z, hr] at e; cases e; exact l rfl
  refine ⟨⟨⟨fun q u e => ?_, fun q u e => ?_, fun q u e => ?_, by simp [h.h.len], fun m ob' e => ?_⟩, h.len, fun i s e => ?_⟩, fun _ _ e => e, fun q r' e l => upd_ne (ne q r' e fun z => by subst z; cases l), fun _ _ e => e⟩
  · rw [upd_ne (ne q _ e (by simp))]; exact h.h.fro q u e
  · rw [upd_ne (ne q _ e (by simp))]; exact h.h.keep q u e
  · by_cases hq : q = p
    · subst hq; exact ⟨_, upd_same⟩
    · rw [upd_ne hq]; exact h.h.live q u e
  · by_cases hm : n = m
    · subst hm
      rw [List.getElem?_set_self hn] at e
      cases e
      exact ⟨p, hA, hr, hb⟩
    · rw [List.getElem?_set_ne hm] at e
      obtain ⟨q, a1, a2, a3⟩ := h.h.obs m ob' e
      refine ⟨q, a1, a2, a3.mono Wd.leS.refl.o a2 fun q r z hz => upd_ne (ne q r z ?_)⟩
      rcases hz with rfl | rfl
      · intro z; cases z; exact hm rfl
      · simp
  · exact SlR.mono .refl (fun q z => ⟨z, upd_ne (ne q _ z (by simp))⟩) (h.sl i s e)
/-- an object that is a list -/
theorem SRel.ols {n : Nat} {v : V} {ds : List D} (h : SRel K CA W σ H env obs) (r : W.rep K v (.obj n)) (e : obs[n]? = some (.ls ds)) : ∃ p vs, v = .ref p ∧ W.A[n]? = some p ∧ H p = some (.lst vs) ∧ W.reps K vs ds := by
  obtain ⟨p, rfl, hA⟩ := r.to_obj
  obtain ⟨q, a1, a2, vs, a3, a4⟩ := h.h.obs n _ e
  rw [hA] at a1; cases a1
  exact ⟨p, vs, rfl, hA, a3, a4⟩
/-- a heap with more in it -/
theorem SRel.heap (h : SRel K CA W σ H env obs) (hh : ∀ p o, H p = some o → H' p = some o) : SRel K CA W σ H' env obs := by
  have hu : ∀ q r, W.ρ q = some r → H' q = H q := fun q r e => by
    obtain ⟨o, z⟩ := h.h.live q r e
    rw [z, hh q o z]
  exact ⟨h.h.mono (fun _ _ e => e) rfl hu (fun q u e z => by rw [z] at e; cases e) (fun q u e z => by rw [z] at e; cases e) (fun q u e z => by rw [z] at e; cases e), h.len,
    fun i s e => SlR.mono .refl (fun q z => ⟨z, hu q _ z⟩) (h.sl i s e)⟩
theorem leE_heap (h : SRel K CA W σ H env obs) (hh : ∀ p o, H p = some o → H' p = some o) : W.leE W H H' :=
  ⟨fun _ _ e => e, fun q r e _ => by
    obtain ⟨o, z⟩ := h.h.live q r e
    rw [z, hh q o z], fun _ _ e => e⟩
/-- a role that is loose and that no slot of the state needs is changed -/
theorem SRel.turn {r r0 : Role} (h : SRel K CA W σ H env obs) (h0 : W.ρ p = some r0) (hl : r0.loose = true) (hs : ∀ i s, r0 = .own i → env[i]? = some s → (∃ d, s = .v d) ∨ s = .un)
    (hf : ∀ u, r = .fro u → H p = some u) (hk : ∀ u, r = .keep u → H p = some u) : SRel K CA (W.put p r) σ H env obs := by
  have ls : W.leS (W.put p r) := ⟨fun q r' e l' => by
    by_cases hq : q = p
    · subst hq; rw [h0] at e; cases e; rw [hl] at l'; cases l'
    · rw [Wd.put_ne hq]; exact e, fun _ _ e => e⟩
  refine ⟨⟨fun q u e => ?_, fun q u e => ?_, fun q u e => ?_, h.h.len, fun n ob e => ?_⟩, h.len, fun i s e => ?_⟩
  · by_cases hq : q = p
    · subst hq; rw [Wd.put_same] at e; exact hf u (Option.some.inj e)
    · rw [Wd.put_ne hq] at e; exact h.h.fro q u e
  · by_cases hq : q = p
    · subst hq; rw [Wd.put_same] at e; exact hk u (Option.some.inj e)
    · rw [Wd.put_ne hq] at e; exact h.h.keep q u e
  · by_cases hq : q = p
    · subst hq; exact h.h.live _ _ h0
    · rw [Wd.put_ne hq] at e; exact h.h.live q u e
  · obtain ⟨q, a1, a2, a3⟩ := h.h.obs n ob e
    exact ⟨q, a1, ls.r q _ a2 rfl, a3.mono ls.o a2 fun _ _ _ _ => rfl⟩
  · by_cases ho : r0 = .own i
    · rcases hs i s ho e with ⟨d, rfl⟩ | rfl
      · obtain ⟨v, a, b⟩ := h.sl i _ e
        exact ⟨v, a, ls.d.rep b⟩
      · trivial
    · refine SlR.mono ls.d (fun q z => ⟨?_, rfl⟩) (h.sl i s e)
      have hq : q ≠ p := fun y => by subst y; rw [h0] at z; exact ho (Option.some.inj z)
      rw [Wd.put_ne hq]; exact z
theorem leS_turn {r r0 : Role} (h0 : W.ρ p = some r0) (hl : r0.loose = true) : W.leS (W.put p r) :=
  ⟨fun q r' e l' => by
    by_cases hq : q = p
    · subst hq; rw [h0] at e; cases e; rw [hl] at l'; cases l'
    · rw [Wd.put_ne hq]; exact e, fun _ _ e => e⟩
/-- a slot is set -/
theorem SRel.set {i : Nat} {v : V} {s : Sl} (h : SRel K CA W σ H env obs) (hv : SlR K W H i (some v) s) : SRel K CA W (σ.set i (some v)) H (env.set i s) obs := by
  refine ⟨h.h, by simp [h.len], fun j t e => ?_⟩
  by_cases hj : i = j
  · subst hj
    have hi : i < env.length := by
      have := (List.getElem?_eq_some_iff.mp e).1
      simpa using this
    rw [List.getElem?_set_self hi] at e
    cases e
    rw [List.getElem?_set_self (by rw [h.len]; exact hi)]
    exact hv
  · rw [List.getElem?_set_ne hj] at e ⊢
    exact h.sl j t e
theorem SRel.get {i : Nat} {d : D} (h : SRel K CA W σ H env obs) (e : env[i]? = some (.v d)) : ∃ v, σ[i]? = some (some v) ∧ W.rep K v d := by
  obtain ⟨v, a, b⟩ := h.sl i _ e
  refine ⟨v, ?_, b⟩
  cases q : σ[i]? with
  | none => rw [q] at a; cases a
  | some x => rw [q] at a; rw [show x = some v from a]
theorem SRel.getL {i : Nat} {ds : List D} (h : SRel K CA W σ H env obs) (e : env[i]? = some (.ol ds)) : ∃ p vs, σ[i]? = some (some (.ref p)) ∧ W.ρ p = some (.own i) ∧ H p = some (.lst vs) ∧ W.reps K vs ds := by
  obtain ⟨p, vs, a, b⟩ := h.sl i _ e
  refine ⟨p, vs, ?_, b⟩
  cases q : σ[i]? with
  | none => rw [q] at a; cases a
  | some x => rw [q] at a; rw [show x = some (.ref p) from a]
/-- the slots' values as they are, some forgotten -/
theorem SRel.weak {σ' : L2.St} {env' : Env} (h : SRel K CA W σ H env obs) (hl : σ'.length = env'.length) (hs : ∀ (i : Nat) (s : Sl), env'[i]? = some s → s = .un ∨ (env[i]? = some s ∧ σ'[i]? = σ[i]?)) : SRel K CA W σ' H env' obs :=
  ⟨h.h, hl, fun i s e => by
    rcases hs i s e with rfl | ⟨a, b⟩
    · trivial
    · rw [b]; exact h.sl i s a⟩
/-- an owned list is written -/
theorem SRel.write {i : Nat} {ds : List D} {vs : List V} (h : SRel K CA W σ H env obs) (hi : i < env.length) (hs : σ[i]? = some (some (.ref p))) (hr : W.ρ p = some (.own i)) (q : W.reps K vs ds) (hot : ∀ s, env[i]? = some s → ∃ es, s = .ol es) : SRel K CA W σ (upd H p (.lst vs)) (env.set i (.ol ds)) obs := by
  have ne : ∀ q r', W.ρ q = some r' → r'.loose = false → q ≠ p := fun q r' e l z => by rw [z, hr] at e; cases e; cases l
  refine ⟨⟨fun q u e => ?_, fun q u e => ?_, fun q u e => ?_, h.h.len, fun n ob e => ?_⟩, by simp [h.len], fun j t e => ?_⟩
  · rw [upd_ne (ne q _ e rfl)]; exact h.h.fro q u e
  · rw [upd_ne (ne q _ e rfl)]; exact h.h.keep q u e
  · by_cases hq : q = p
    · subst hq; exact ⟨_, upd_same⟩
    · rw [upd_ne hq]; exact h.h.live q u e
  · obtain ⟨q, a1, a2, a3⟩ := h.h.obs n ob e
    refine ⟨q, a1, a2, a3.mono Wd.leS.refl.o a2 fun q r z hz => upd_ne (ne q r z ?_)⟩
    rcases hz with rfl | rfl <;> rfl
  · by_cases hj : i = j
    · subst hj
      rw [List.getElem?_set_self hi] at e
      cases e
      exact ⟨p, vs, by rw [hs]; rfl, hr, upd_same, q⟩
    · rw [List.getElem?_set_ne hj] at e
      refine SlR.mono .refl (fun q z => ⟨z, upd_ne fun y => ?_⟩) (h.sl j t e)
      subst y; rw [hr] at z; cases z; exact hj rfl
end

/-! ### readings -/
section
variable (K : PySem.W.Frag) (CA : Str → Option Addr) (W0 : WX)
/-- how an exception of the class c with the value a lies: its class, its own dict -/
def XR (W : Wd) (H : Hp) (cls : Value) (d : Option Addr) (c : Str) : D → Prop
  | .non => ∃ C, CA c = some C ∧ cls = .ref C
  | a => ∃ C dd v, CA c = some C ∧ cls = .ref C ∧ d = some dd ∧ H dd = some (.xd [(("place" : Str), v)]) ∧ W.rep K v a
/-- what lies between a value of the model and the data: by the world ahead, the world behind, the heap behind -/
abbrev Rl (α β : Type) := Wd → Wd → Hp → β → α → Prop
abbrev relE : Rl D V := fun _ W' _ v d => W'.rep K v d
abbrev relT : Rl Bool Bool := fun _ _ _ v d => v = d
abbrev relO : Rl (Option Int) (Option Int) := fun _ _ _ v d => v = d
abbrev relA : Rl (List D) (List V) := fun _ W' _ v d => W'.reps K v d
abbrev relF : Rl (List D) V := fun W W' H' v ds => ∃ p vs, v = .ref p ∧ W.ρ p = none ∧ W'.ρ p = some .acc ∧ H' p = some (.lst vs) ∧ W'.reps K vs ds
/-- what a run over data says of what is wanted -/
def GP {α β : Type} (rel : Rl α β) (W : Wd) (env : Env) (σ : L2.St) (H : Hp) (Q : β → Hp → Prop) : R α → Prop
  | .ok d obs' => ∀ v W' H', W.leE W' H H' → SRel K CA W' σ H' env obs' → rel W W' H' v d → Q v H'
  | .ex c a obs' => ∀ cls dd W' H', W.leE W' H H' → SRel K CA W' σ H' env obs' → XR K CA W' H' cls dd c a → W0 cls dd σ H'
  | .bad => False
def LG {α β : Type} (rel : Rl α β) (f : Env → Obs → R α) : L2.St → Hp → (β → Hp → Prop) → Prop := fun σ H Q => ∃ W env obs, SRel K CA W σ H env obs ∧ GP K CA W0 rel W env σ H Q (f env obs)
/-- an expression's reading -/
abbrev LE (f : Env → Obs → R D) : TE := LG K CA W0 (relE K) f
abbrev LT (f : Env → Obs → R Bool) : TT := LG K CA W0 relT f
abbrev LA (f : Env → Obs → R (List D)) : TA := LG K CA W0 (relA K) f
abbrev LO (f : Env → Obs → R (Option Int)) : TO := LG K CA W0 relO f
/-- a new list -/
abbrev LF (f : Env → Obs → R (List D)) : TE := LG K CA W0 (relF K) f
def LPost (W : Wd) (D : Ends) : RS → Prop
  | .nx env obs => ∀ σ' W' H', W.leS W' → SRel K CA W' σ' H' env obs → D.nx σ' H'
  | .rt d obs => ∀ v W' H', W.leS W' → HRel K CA W' H' obs → W'.rep K v d → D.rt v H'
  | .bk env obs => ∀ σ' W' H', W.leS W' → SRel K CA W' σ' H' env obs → D.bk σ' H'
  | .ct env obs => ∀ σ' W' H', W.leS W' → SRel K CA W' σ' H' env obs → D.ct σ' H'
  | .ex c a env obs => ∀ cls dd σ' W' H', W.leS W' → SRel K CA W' σ' H' env obs → XR K CA W' H' cls dd c a → W0 cls dd σ' H'
  | .bad => False
/-- a statement's -/
def LS (f : Env → Obs → RS) : TS := fun D σ H => ∃ W env obs, SRel K CA W σ H env obs ∧ LPost K CA W0 W D (f env obs)
end
section
variable {K : PySem.W.Frag} {CA : Str → Option Addr} {W0 : WX} {W W1 : Wd} {H H1 : Hp} {obs : Obs} {env : Env} {σ : L2.St} {α β γ δ : Type} {rel : Rl α β} {rel2 : Rl γ δ}
/-- a relation that may be told of an earlier world -/
def Rl.Early (rel : Rl α β) : Prop := ∀ W W1 W' H H1 H' v a, Wd.leE W W1 H H1 → rel W1 W' H' v a → rel W W' H' v a
theorem earlyE : Rl.Early (relE K) := fun _ _ _ _ _ _ _ _ _ h => h
theorem earlyT : Rl.Early relT := fun _ _ _ _ _ _ _ _ _ h => h
theorem earlyO : Rl.Early relO := fun _ _ _ _ _ _ _ _ _ h => h
theorem earlyA : Rl.Early (relA K) := fun _ _ _ _ _ _ _ _ _ h => h
theorem earlyF : Rl.Early (relF K) := fun W W1 _ _ _ _ _ _ l ⟨p, vs, e, n, h⟩ => ⟨p, vs, e, (by
  cases q : W.ρ p with
  | none => rfl
  | some r => rw [l.r p r q] at n; cases n), h⟩
theorem GP.mono {Q : β → Hp → Prop} (er : rel.Early) (l : W.leE W1 H H1) : ∀ {r : R α}, GP K CA W0 rel W env σ H Q r → GP K CA W0 rel W1 env σ H1 Q r
  | .ok d o, h => fun v W' H' l' S r => h v W' H' (l.trans l') S (er _ _ _ _ _ _ _ _ l r)
  | .ex c a o, h => fun cls dd W' H' l' S r => h cls dd W' H' (l.trans l') S r
  | .bad, h => h
/-- a run, then another one -/
theorem LG.bnd {Q : δ → Hp → Prop} {T : β → Hp → Prop} {fa : Env → Obs → R α} {k : α → Obs → R γ} (er : rel2.Early) (S : SRel K CA W σ H env obs) (h : GP K CA W0 rel2 W env σ H Q ((fa env obs).bind k))
    (kk : ∀ a o1 v W1 H1, W.leE W1 H H1 → SRel K CA W1 σ H1 env o1 → rel W W1 H1 v a → GP K CA W0 rel2 W1 env σ H1 Q (k a o1) → T v H1) : LG K CA W0 rel fa σ H T := by
  refine ⟨W, env, obs, S, ?_⟩
  cases e : fa env obs with
  | ok a o => exact fun v W' H' l S' r => kk a o v W' H' l S' r (GP.mono er l (by rw [e] at h; exact h))
  | ex c a o => rw [e] at h; exact h
  | bad => rw [e] at h; exact h
/-- the end: data, nothing laid -/
theorem GP.fin {Q : β → Hp → Prop} {o : Option α} (S : SRel K CA W σ H env obs) {v : β} (h : GP K CA W0 rel W env σ H Q (R.opt obs o)) (r : ∀ d, o = some d → rel W W H v d) : Q v H := by
  cases o with
  | none => exact h.elim
  | some d => exact h v W H .refl S (r d rfl)
theorem GP.opt {Q : β → Hp → Prop} {o : Option α} (h : GP K CA W0 rel W env σ H Q (R.opt obs o)) : ∃ d, o = some d ∧ ∀ v W' H', W.leE W' H H' → SRel K CA W' σ H' env obs → rel W W' H' v d → Q v H' := by
  cases o with
  | none => exact h.elim
  | some d => exact ⟨d, rfl, h⟩
/-- a new tuple -/
theorem GP.tup {Q : V → Hp → Prop} {ds : List D} {vs : List V} (S : SRel K CA W σ H env obs) (q : ∀ v W' H', W.leE W' H H' → SRel K CA W' σ H' env obs → W'.rep K v (.tup ds) → Q v H') (r : W.reps K vs ds) :
    ∀ p, H p = none → Q (.ref p) (upd H p (.tup vs)) := fun p hp => by
  have n := S.h.fresh hp
  refine q _ (W.put p (.fro (.tup vs))) _ (leE_add n) (S.add hp (fun u e => by injection e with e; exact e.symm) (fun u e => nomatch e)) (.tup (.inl (.inl (Wd.F_of.mpr Wd.put_same))) ?_)
  exact (leE_add (H := H) (o := .tup vs) n).d.reps r
theorem GP.lst {Q : V → Hp → Prop} {ds : List D} {vs : List V} (S : SRel K CA W σ H env obs) (q : ∀ v W' H', W.leE W' H H' → SRel K CA W' σ H' env obs → W'.rep K v (.lst ds) → Q v H') (r : W.reps K vs ds) :
    ∀ p, H p = none → Q (.ref p) (upd H p (.lst vs)) := fun p hp => by
  have n := S.h.fresh hp
  refine q _ (W.put p (.fro (.lst vs))) _ (leE_add n) (S.add hp (fun u e => by injection e with e; exact e.symm) (fun u e => nomatch e)) (.lst (Wd.F_of.mpr Wd.put_same) ?_)
  exact (leE_add (H := H) (o := .lst vs) n).d.reps r
/-- a new list of nobody's yet -/
theorem GP.new {Q : V → Hp → Prop} {ds : List D} {vs : List V} (S : SRel K CA W σ H env obs) (q : ∀ v W' H', W.leE W' H H' → SRel K CA W' σ H' env obs → relF K W W' H' v ds → Q v H') (r : W.reps K vs ds) :
    ∀ p, H p = none → Q (.ref p) (upd H p (.lst vs)) := fun p hp => by
  have n := S.h.fresh hp
  exact q _ (W.put p .acc) _ (leE_add n) (S.add hp (fun u e => nomatch e) (fun u e => nomatch e)) ⟨p, vs, rfl, n, Wd.put_same, upd_same, (leE_add (H := H) (o := .lst vs) n).d.reps r⟩
end
theorem PE.weak {X : Cx} {e : Expr} {t t' : TE} (h : PE X e t) (w : ∀ σ H Q, t' σ H Q → t σ H Q) : PE X e t' := ⟨fun pins s σ H Q I q => h.run pins s σ H Q I (w σ H Q q)⟩
theorem PT.weak {X : Cx} {e : Expr} {t t' : TT} (h : PT X e t) (w : ∀ σ H Q, t' σ H Q → t σ H Q) : PT X e t' := ⟨fun pins s σ H Q I q => h.run pins s σ H Q I (w σ H Q q)⟩
theorem PA.weak {X : Cx} {e : List Expr} {t t' : TA} (h : PA X e t) (w : ∀ σ H Q, t' σ H Q → t σ H Q) : PA X e t' := ⟨fun pos pins s σ H Q I q => h.run pos pins s σ H Q I (w σ H Q q)⟩
theorem PS.weak {X : Cx} {e : Stmt} {t t' : TS} (h : PS X e t) (w : ∀ D σ H, t' D σ H → t D σ H) : PS X e t' := ⟨fun pins s σ H D I q => h.run pins s σ H D I (w D σ H q)⟩
theorem PSs.weak {X : Cx} {e : List Stmt} {t t' : TS} (h : PSs X e t) (w : ∀ D σ H, t' D σ H → t D σ H) : PSs X e t' := ⟨fun pins s σ H D I q => h.run pins s σ H D I (w D σ H q)⟩
theorem PW.weak {X : Cx} {e : Expr} {t t' : TT} (h : PW X e t) (w : ∀ σ H Q, t' σ H Q → t σ H Q) : PW X e t' := ⟨fun wh pins s σ H Q I q => h.run wh pins s σ H Q I (w σ H Q q)⟩
end Mp

set_option Elab.async false
set_option linter.all false
set_option maxRecDepth 100000
/-! The small language: its terms, what they mean over data, which terms of the model they stand for. -/
namespace Mp
open PySem PySem.Spec PyProof.Rows L2

/-! ### what operators do with data -/
def cutD (ds : List D) (lo hi : Option Int) : List D := (ds.drop (HT.sIx ds.length 0 lo)).take (HT.sIx ds.length ds.length hi - HT.sIx ds.length 0 lo)
def addD : D → D → Option D
  | .int a, .int b => some (.int (a + b))
  | .str a, .str b => if a.length + b.length ≤ sizeLine then some (.str (a ++ b)) else none
  | .tup a, .tup b => if a.length + b.length ≤ sizeLine then some (.tup (a ++ b)) else none
  | .lst a, .lst b => if a.length + b.length ≤ sizeLine then some (.lst (a ++ b)) else none
  | _, _ => none
def subD : D → D → Option D
  | .int a, .int b => some (.int (a - b))
  | _, _ => none
/-- a product of numbers: one of them below 2 to the 64, or both below 2 to the 400000 -/
def mulOk (a b : Int) : Bool := decide (a.natAbs < 2 ^ 64) || decide (b.natAbs < 2 ^ 64)
def mulD : D → D → Option D
  | .int a, .int b => if mulOk a b then some (.int (a * b)) else none
  | .lst a, .int k => if decide (-(2 ^ 63) ≤ k ∧ k < 2 ^ 63) && decide (a.length * k.toNat ≤ sizeLine) then some (.lst (List.replicate k.toNat a).flatten) else none
  | .tup a, .int k => if decide (-(2 ^ 63) ≤ k ∧ k < 2 ^ 63) && decide (a.length * k.toNat ≤ 1000000) then some (.tup (List.replicate k.toNat a).flatten) else none
  | _, _ => none
def divD : D → D → Option D
  | .int a, .int b => if decide (b ≠ 0 ∧ b.natAbs < 1073741824) || decide (0 < b ∧ b.natAbs.log2 < 9000) then some (.int (a.fdiv b)) else none
  | _, _ => none
def modD : D → D → Option D
  | .int a, .int b => if b = 0 then none else some (.int (a.fmod b))
  | _, _ => none
def powD : D → D → Option D
  | .int a, .int b => if decide (0 ≤ b ∧ b ≤ 1000000 ∧ a.natAbs < 2 ^ 64) then some (.int (a ^ b.toNat)) else none
  | _, _ => none
def shlD : D → D → Option D
  | .int a, .int b => if decide (0 ≤ b ∧ b ≤ 1000000 ∧ a.natAbs < 2 ^ 64) then some (.int (a * 2 ^ b.toNat)) else none
  | _, _ => none
/-- op= of numbers -/
def augD : Operator → D → D → Option D
  | .Add, .int a, .int b => some (.int (a + b))
  | .Sub, .int a, .int b => some (.int (a - b))
  | .Mult, .int a, .int b => if mulOk a b then some (.int (a * b)) else none
  | .FloorDiv, .int a, .int b => if decide (0 < b ∧ b < 1073741824) then some (.int (a / b)) else none
  | .Mod, .int a, .int b => if decide (0 < b) then some (.int (a % b)) else none
  | _, _, _ => none
def binD : Operator → D → D → Option D
  | .Add => addD | .Sub => subD | .Mult => mulD | .FloorDiv => divD | .Mod => modD | .Pow => powD | .LShift => shlD
  | _ => fun _ _ => none

/-! data without objects, as the model has them -/
mutual
def toP : D → Option PyData
  | .non => some .none
  | .bl b => some (.bool b)
  | .int i => some (.int i)
  | .str x => some (.str x)
  | .tup ds => (toPs ds).map .tuple
  | .lst ds => (toPs ds).map .list
  | _ => none
def toPs : List D → Option (List PyData)
  | [] => some []
  | d :: ds => do some ((← toP d) :: (← toPs ds))
end
def eqD (a b : D) : Option Bool := do
  let x ← toP a
  let y ← toP b
  if SeqAt.shaped x && SeqAt.shaped y then some (PyData.eqv x y) else none
def intsD : List D → Option (List Int)
  | [] => some []
  | .int i :: ds => (intsD ds).map (i :: ·)
  | _ => none
def blsD : List D → Option (List Bool)
  | [] => some []
  | .bl i :: ds => (blsD ds).map (i :: ·)
  | _ => none
def strsD : List D → Option (List Str)
  | [] => some []
  | .str i :: ds => (strsD ds).map (i :: ·)
  | _ => none
def ltD : D → D → Option Bool
  | .int a, .int b => some (decide (a < b))
  | .tup a, .tup b => do
    let x ← intsD a
    let y ← intsD b
    some (HT.lexLt x y)
  | .str a, .str b => some (decide (a.cps.toList < b.cps.toList))
  | _, _ => none
def leD : D → D → Option Bool
  | .int a, .int b => some (decide (a ≤ b))
  | _, _ => none
def flatD : D → Bool
  | .non => true | .bl _ => true | .int _ => true | .str _ => true | _ => false
def feqD : D → D → Bool
  | .non, .non => true
  | .bl a, .bl b => a == b
  | .bl a, .int b => (if a then 1 else 0) == b
  | .int a, .bl b => a == (if b then 1 else 0)
  | .int a, .int b => a == b
  | .str a, .str b => a == b
  | _, _ => false
/-- data of any depth in a tuple -/
def inDeep (x : D) (ds : List D) : Option Bool := do
  let d ← toP x
  let ys ← toPs ds
  if SeqAt.shaped d && SeqAt.shaped (.tuple ys) then some (ys.any fun z => PyData.eqv z d) else none
def inD (x : D) : D → Option Bool
  | .tup ds => if flatD x && ds.all flatD then some (ds.any fun y => feqD y x) else inDeep x ds
  | .lst ds => if flatD x && ds.all flatD then some (ds.any fun y => feqD y x) else none
  | _ => none
def cmpD : CmpOp → D → D → Option Bool
  | .Eq => eqD
  | .NotEq => fun a b => (eqD a b).map (!·)
  | .Lt => ltD
  | .LtE => leD
  | .Gt => fun a b => match a, b with | .int x, .int y => some (decide (y < x)) | _, _ => none
  | .GtE => fun a b => match a, b with | .int x, .int y => some (decide (y ≤ x)) | _, _ => none
  | .In => inD
  | .NotIn => fun a b => (inD a b).map (!·)
  | .Is => fun a b => match b, a with | .non, .non => some true | .non, _ => some false | .bl y, .bl x => some (decide (x = y)) | _, _ => none
  | .IsNot => fun a b => match b, a with | .non, .non => some false | .non, _ => some true | .bl y, .bl x => some (!decide (x = y)) | _, _ => none
def truD : D → Option Bool
  | .non => some false
  | .bl b => some b
  | .int i => some (i != 0)
  | .str y => if y.length ≤ sizeLine then some ((y.length : Int) != 0) else none
  | .tup ds => some (!ds.isEmpty)
  | .lst ds => some (!ds.isEmpty)
  | .dic ks => some (!ks.isEmpty)
  | _ => none
def ixD : D → D → Option D
  | .lst ds, .int i => atI ds i
  | .tup ds, .int i => atI ds i
  | .str z, .int i => if z.length ≤ sizeLine then (atI z.cps.toList i).map fun c => .str ⟨#[c]⟩ else none
  | _, _ => none
def slD : D → Option Int → Option Int → Option D
  | .lst ds, lo, hi => some (.lst (cutD ds lo hi))
  | .tup ds, lo, hi => some (.tup (cutD ds lo hi))
  | .loc ns, lo, hi => some (.lst (cutD (ns.map .int) lo hi))
  | .str z, lo, hi => if z.length ≤ sizeLine then some (.str (Txt.slice z lo hi)) else none
  | _, _, _ => none
def revD : D → Option D
  | .lst ds => some (.lst ds.reverse)
  | .tup ds => if ds.length ≤ 1000000 then some (.tup ds.reverse) else none
  | _ => none
def lenD : D → Option Nat
  | .str y => if y.length ≤ sizeLine then some y.length else none
  | .tup ds => some ds.length
  | .lst ds => some ds.length
  | .dic ks => some ks.length
  | .loc ns => some ns.length
  | _ => none
def maxI (x : Int) : List Int → Int
  | [] => x
  | y :: ys => maxI (if y > x then y else x) ys
def minI (x : Int) : List Int → Int
  | [] => x
  | y :: ys => minI (if y < x then y else x) ys
def insI (x : Int) : List Int → List Int
  | [] => [x]
  | y :: ys => if x ≤ y then x :: y :: ys else y :: insI x ys
/-- numbers in their order -/
def sortI : List Int → List Int
  | [] => []
  | x :: xs => insI x (sortI xs)
def inuI (x : Int) : List Int → List Int
  | [] => [x]
  | y :: ys => if x < y then x :: y :: ys else if x = y then y :: ys else y :: inuI x ys
/-- .. each once -/
def ssetI : List Int → List Int
  | [] => []
  | x :: xs => inuI x (ssetI xs)
def ssetD : D → Option D
  | .lst ds => (intsD ds).bind fun ns => if ns.length < 64 then some (.lst ((ssetI ns).map .int)) else none
  | _ => none
/-- the built-in functions, by their names -/
def biD (f : String) : List D → Option D
  | [a] => match f with
    | "len" => (lenD a).map fun n => .int n
    | "abs" => match a with | .int i => some (.int (if i < 0 then -i else i)) | _ => none
    | "int" => match a with | .int i => some (.int i) | .bl k => some (.int (if k then 1 else 0)) | _ => none
    | "str" => match a with | .int i => if i.natAbs.log2 < 1920 then some (.str (toString i)) else none | _ => none
    | "tuple" => match a with | .lst ds => some (.tup ds) | .tup ds => some (.tup ds) | _ => none
    | "list" => match a with | .lst ds => some (.lst ds) | .tup ds => some (.lst ds) | _ => none
    | "sum" => match a with | .lst ds => (intsD ds).map fun ns => .int ns.sum | _ => none
    | "all" => match a with | .lst ds => (blsD ds).map fun ns => .bl (ns.all id) | _ => none
    | "any" => match a with | .lst ds => (blsD ds).map fun ns => .bl (ns.any id) | _ => none
    | "max" => match a with | .lst ds => (match intsD ds with | some (x :: xs) => some (.int (maxI x xs)) | _ => none) | .tup ds => (match intsD ds with | some (x :: xs) => some (.int (maxI x xs)) | _ => none) | _ => none
    | "min" => match a with | .lst ds => (match intsD ds with | some (x :: xs) => some (.int (minI x xs)) | _ => none) | .tup ds => (match intsD ds with | some (x :: xs) => some (.int (minI x xs)) | _ => none) | _ => none
    | "sorted" => match a with | .lst ds => (intsD ds).map fun ns => .lst ((sortI ns).map .int) | _ => none
    | _ => none
  | [a, b] => match f with
    | "max" => match a, b with | .int i, .int j => some (.int (if j > i then j else i)) | _, _ => none
    | "min" => match a, b with | .int i, .int j => some (.int (if j < i then j else i)) | _, _ => none
    | _ => none
  | _ => none
/-- isinstance of data with a built-in class -/
def isiD (t : String) : D → Option Bool
  | .non => some false
  | .bl _ => some (t == "bool" || t == "int")
  | .int _ => some (t == "int")
  | .str _ => some (t == "str")
  | .tup _ => some (t == "tuple")
  | .lst _ => some (t == "list")
  | _ => none
/-- a built-in class's method that changes nothing -/
def mthD (T m : String) : D → List D → Option D
  | .dic ks, [.str x, d] => if T == "dict" && m == "get" then some (((ks.lookup (Sum.inr x : Key)).getD d)) else none
  | .dic ks, [.int x, d] => if T == "dict" && m == "get" then some (((ks.lookup (Sum.inl x : Key)).getD d)) else none
  | _, _ => none

/-! ### terms -/
/-- what a for or a comprehension stores to -/
inductive Tg where
  | nm (i : Nat) | tp (ts : List Nat) | tt (ts : List (Nat ⊕ List Nat))
mutual
inductive E where
  | lit (d : D) | var (i : Nat) | glob (x : Str)
  | bin (op : Operator) (a b : E) | cmp (op : CmpOp) (a b : E) | chn (o1 o2 : CmpOp) (a b c : E)
  | not (a : E) | neg (a : E) | con (es : Es) | dis (es : Es) | ife (c a b : E)
  | tup (es : Es) | lst (es : Es) | ix (a b : E) | sl (a : E) (lo hi : Eo) | rev (a : E)
  | call (f : Str) (es : Es) | bi (f : String) (es : Es) | isi (a : E) (t : String) | mth (T m : String) (a : E) (es : Es)
  | lc (x : E) (tg : Tg) (it : It) (c : Eo) (own : List (Str × Nat))
  | lc2 (x : E) (tg : Tg) (it : It) (c : Eo) (tg1 : Tg) (it1 : It) (c1 : Eo) (own : List (Str × Nat)) (vs1 : List Nat)
  | sset (a : E)
  | bor (i : Nat) (e : E)
  | oix (a b : E) | olen (a : E) | onew (es : Es) | olist (a : E) | om (m : String) (a e : E)
inductive Es where
  | nil | cons (e : E) (es : Es)
inductive Eo where
  | none | some (e : E)
inductive It where
  | sq (e : E) | r1 (a : E) | r2 (a b : E) | r3 (a b c : E) | en (e : E)
end
/-- a list made anew, for a slot of one's own -/
inductive Fr where
  | dsp (es : Es) | lc (x : E) (tg : Tg) (it : It) (c : Eo) (own : List (Str × Nat)) | lo (e : E)
/-- what an except suite does: a name is given the exception's place, or data; data is returned -/
inductive Hd where
  | fld (i j : Nat) | set (j : Nat) (d : D) | ret (d : D)
mutual
inductive S where
  | rse (c : Str) (e : E) | trye (b : Ss) (c : Str) (h : Hd)
  | set (i : Nat) (e : E) | new (i : Nat) (f : Fr) | tup (ts : List Nat) (e : E) | tgt (tg : Tg) (e : E) | par (ts : List Nat) (es : List (E ⊕ Fr))
  | aug (i : Nat) (op : Operator) (e : E) | app (i : Nat) (e : E) | ext (i : Nat) (e : E) | put (i : Nat) (k e : E) | oput (a k e : E)
  | ret (e : E) | ret0 | mv (i : Nat) | ife (c : E) (a b : Ss) | whl (c : E) (b : Ss) | for_ (tg : Tg) (it : It) (b : Ss)
  | exp (e : E) | pass | brk | cnt
inductive Ss where
  | nil | cons (s : S) (r : Ss) | frz (i : Nat) (r : Ss)
end

/-! ### meaning -/
def getD' (env : Env) (i : Nat) : Option D := match env[i]? with
  | some (.v d) => some d
  | _ => none
mutual
def noL : D → Bool
  | .tup ds => noLs ds
  | .lst _ => false | .dic _ => false | .loc _ => false
  | _ => true
def noLs : List D → Bool
  | [] => true
  | d :: ds => noL d && noLs ds
end
def noLO : Ob → Bool
  | .ins _ fs => noLs (fs.map (·.2))
  | .ls ds => noLs ds
  | .dk ks => noLs (ks.map (·.2))
def wipeE (env : Env) : List Nat → Env
  | [] => env
  | v :: vs => (wipeE env vs).set v .un
def setTs : List Nat → List D → Env → Option Env
  | [], [], env => some env
  | i :: is, d :: ds, env => setTs is ds (env.set i (.v d))
  | _, _, _ => none
def setT1 : Nat ⊕ List Nat → D → Env → Option Env
  | .inl i, d, env => some (env.set i (.v d))
  | .inr ts, .tup ds, env => if ds.length = ts.length then setTs ts ds env else none
  | _, _, _ => none
def setTt : List (Nat ⊕ List Nat) → List D → Env → Option Env
  | [], [], env => some env
  | t :: ts, d :: ds, env => (setT1 t d env).bind (setTt ts ds)
  | _, _, _ => none
def setTg : Tg → D → Env → Option Env
  | .nm i, d, env => some (env.set i (.v d))
  | .tp ts, .tup ds, env => if ds.length = ts.length then setTs ts ds env else none
  | .tt ts, .tup ds, env => if ds.length = ts.length then setTt ts ds env else none
  | _, _, _ => none
def rangeD (lo : Int) (n : Nat) (c : Int) : List D := (List.range n).map fun (i : Nat) => D.int (lo + (i : Nat) * c)
def enumD (ds : List D) : List D := ds.zipIdx.map fun p => D.tup [.int (p.2 : Nat), p.1]
def smallI (a : Int) : Bool := decide (a.natAbs < 4611686018427387904)
theorem smallI_ok {a : Int} (h : smallI a = true) : -(2 ^ 62) ≤ a ∧ a < 2 ^ 62 := by
  have := of_decide_eq_true h
  have : (2:Int)^62 = 4611686018427387904 := by decide
  omega

/-- an object that is a list -/
def lsO (o : Obs) : D → Option (List D)
  | .obj n => match o[n]? with
    | some (.ls ds) => some ds
    | _ => none
  | _ => none
def setO (o : Obs) : D → List D → Obs
  | .obj n, ds => o.set n (.ls ds)
  | _, _ => o
/-- a shared list's methods -/
def omD (m : String) (o : Obs) (x a : D) : Option (D × Obs) := match lsO o x with
  | none => none
  | some ds => if m == "append" then (if ds.length < sizeLine then some (.non, setO o x (ds ++ [a])) else none)
    else if m == "extend" then (match a with
      | .lst es => if ds.length + es.length ≤ sizeLine then some (.non, setO o x (ds ++ es)) else none
      | _ => none)
    else if m == "pop" then (match a with
      | .int i => if decide (-(2 ^ 63) ≤ i ∧ i < 2 ^ 63) then (match seqIndex? i ds.length with
        | some k => (ds[k]?).map fun y => (y, setO o x (ds.eraseIdx k))
        | none => none) else none
      | _ => none)
    else none
section
variable (Φ : Str → List D → Obs → R D) (G : Str → Option D)
/-- the list of a comprehension, item by item -/
def lcD (own : List Nat) (tg : Tg) (t : Env → Obs → R Bool) (x : Env → Obs → R D) (env : Env) : List D → List D → Obs → R (List D)
  | [], acc, o => .ok acc o
  | d :: ds, acc, o => match setTg tg d (wipeE env own) with
    | none => .bad
    | some env' => (t env' o).noex.bind fun b o => if b then (x env' o).noex.bind fun y o => if acc.length < sizeLine then lcD own tg t x env ds (acc ++ [y]) o else .bad else lcD own tg t x env ds acc o
/-- .. of one with two fors -/
def lc2D (own vs1 : List Nat) (tg : Tg) (t : Env → Obs → R Bool) (it1 : Env → Obs → R (List D)) (tg1 : Tg) (t1 : Env → Obs → R Bool) (x : Env → Obs → R D) (env : Env) : List D → List D → Obs → R (List D)
  | [], acc, o => .ok acc o
  | d :: ds, acc, o => match setTg tg d (wipeE env own) with
    | none => .bad
    | some env' => (t env' o).noex.bind fun b o => if b then (it1 env' o).noex.bind fun es o => (lcD vs1 tg1 t1 x env' es acc o).bind fun acc o => lc2D own vs1 tg t it1 tg1 t1 x env ds acc o else lc2D own vs1 tg t it1 tg1 t1 x env ds acc o
/-- an expression's meaning: as a value, as a test -/
structure PR where
  v : Env → Obs → R D
  t : Env → Obs → R Bool
def mkP (v : Env → Obs → R D) : PR := ⟨v, fun env o => (v env o).bind fun x o => R.opt o (truD x)⟩
/-- the same, of a row of and, of or -/
structure PRs where
  v : Env → Obs → R (List D)
  cv : Env → Obs → R D
  dv : Env → Obs → R D
  ct : Env → Obs → R Bool
  dt : Env → Obs → R Bool
mutual
def denP : E → PR
  | .lit d => mkP fun _ o => .ok d o
  | .var i => mkP fun env o => R.opt o (getD' env i)
  | .glob x => mkP fun _ o => R.opt o (G x)
  | .bin op a b => mkP fun env o => ((denP a).v env o).bind fun x o => ((denP b).v env o).bind fun y o => R.opt o (binD op x y)
  | .cmp op a b => mkP fun env o => ((denP a).v env o).bind fun x o => ((denP b).v env o).bind fun y o => R.opt o ((cmpD op x y).map .bl)
  | .chn o1 o2 a b c => mkP fun env o => ((denP a).v env o).bind fun x o => ((denP b).v env o).bind fun y o => match cmpD o1 x y with
    | some true => ((denP c).v env o).bind fun z o => R.opt o ((cmpD o2 y z).map .bl)
    | some false => .ok (.bl false) o
    | none => .bad
  | .not a => ⟨fun env o => ((denP a).v env o).bind fun x o => match x with | .bl b => .ok (.bl (!b)) o | _ => .bad, fun env o => ((denP a).t env o).map (!·)⟩
  | .neg a => mkP fun env o => ((denP a).v env o).bind fun x o => match x with | .int i => .ok (.int (-i)) o | _ => .bad
  | .con es => ⟨(denPs' es).cv, (denPs' es).ct⟩
  | .dis es => ⟨(denPs' es).dv, (denPs' es).dt⟩
  | .ife c a b => ⟨fun env o => ((denP c).t env o).bind fun k o => if k then (denP a).v env o else (denP b).v env o, fun env o => ((denP c).t env o).bind fun k o => if k then (denP a).t env o else (denP b).t env o⟩
  | .tup es => mkP fun env o => ((denPs' es).v env o).bind fun ds o => if ds.length ≤ sizeLine then .ok (.tup ds) o else .bad
  | .lst es => mkP fun env o => ((denPs' es).v env o).bind fun ds o => if ds.length ≤ sizeLine then .ok (.lst ds) o else .bad
  | .ix a b => mkP fun env o => ((denP a).v env o).bind fun x o => ((denP b).v env o).bind fun y o => R.opt o (ixD x y)
  | .sl a lo hi => mkP fun env o => ((denP a).v env o).bind fun x o => (denO lo env o).bind fun l o => (denO hi env o).bind fun h o => R.opt o (slD x l h)
  | .rev a => mkP fun env o => ((denP a).v env o).bind fun x o => R.opt o (revD x)
  | .call f es => mkP fun env o => ((denPs' es).v env o).bind fun ds o => Φ f ds o
  | .bi f es => mkP fun env o => ((denPs' es).v env o).bind fun ds o => R.opt o (biD f ds)
  | .isi a t => mkP fun env o => ((denP a).v env o).bind fun x o => R.opt o ((isiD t x).map .bl)
  | .mth T m a es => mkP fun env o => ((denP a).v env o).bind fun x o => ((denPs' es).v env o).bind fun ds o => R.opt o (mthD T m x ds)
  | .lc x tg it c own => mkP fun env o => ((denI it env o).bind fun ds o => lcD (own.map (·.2)) tg (denC c) (denP x).v env ds [] o).map .lst
  | .lc2 x tg it c tg1 it1 c1 own vs1 => mkP fun env o => ((denI it env o).bind fun ds o => lc2D (own.map (·.2)) vs1 tg (denC c) (denI it1) tg1 (denC c1) (denP x).v env ds [] o).map .lst
  | .sset a => mkP fun env o => ((denP a).v env o).bind fun x o => R.opt o (ssetD x)
  | .bor i e => ⟨fun env o => match env[i]? with
    | some (.ol ds) => ((denP e).v (env.set i (.v (.lst ds))) o).noex.bind fun d o => if noL d && o.all noLO then .ok d o else .bad
    | _ => .bad, fun env o => match env[i]? with
    | some (.ol ds) => ((denP e).t (env.set i (.v (.lst ds))) o).noex.bind fun d o => if true && o.all noLO then .ok d o else .bad
    | _ => .bad⟩
  | .oix a b => mkP fun env o => ((denP a).v env o).bind fun x o => ((denP b).v env o).bind fun y o => R.opt o (match y with | .int i => (lsO o x).bind fun ds => atI ds i | _ => none)
  | .olen a => mkP fun env o => ((denP a).v env o).bind fun x o => R.opt o ((lsO o x).map fun ds => .int ds.length)
  | .onew es => mkP fun env o => ((denPs' es).v env o).bind fun ds o => if ds.length ≤ sizeLine then .ok (.obj o.length) (o ++ [.ls ds]) else .bad
  | .olist a => mkP fun env o => ((denP a).v env o).bind fun x o => match x with | .lst ds => .ok (.obj o.length) (o ++ [.ls ds]) | .tup ds => .ok (.obj o.length) (o ++ [.ls ds]) | _ => .bad
  | .om m a e => mkP fun env o => ((denP a).v env o).bind fun x o => match lsO o x with | none => .bad | some _ => ((denP e).v env o).bind fun d o => match omD m o x d with | some y => .ok y.1 y.2 | none => .bad
  termination_by structural e => e
def denPs' : Es → PRs
  | .nil => ⟨fun _ o => .ok [] o, fun _ _ => .bad, fun _ _ => .bad, fun _ _ => .bad, fun _ _ => .bad⟩
  | .cons e r => ⟨fun env o => ((denP e).v env o).bind fun x o => ((denPs' r).v env o).bind fun xs o => .ok (x :: xs) o,
    fun env o => match r with
      | .nil => (denP e).v env o
      | .cons _ _ => ((denP e).v env o).bind fun x o => match x with | .bl true => (denPs' r).cv env o | .bl false => .ok (.bl false) o | _ => .bad,
    fun env o => match r with
      | .nil => (denP e).v env o
      | .cons _ _ => ((denP e).v env o).bind fun x o => match x with | .bl false => (denPs' r).dv env o | .bl true => .ok (.bl true) o | _ => .bad,
    fun env o => match r with
      | .nil => (denP e).t env o
      | .cons _ _ => ((denP e).t env o).bind fun k o => if k then (denPs' r).ct env o else .ok false o,
    fun env o => match r with
      | .nil => (denP e).t env o
      | .cons _ _ => ((denP e).t env o).bind fun k o => if k then .ok true o else (denPs' r).dt env o⟩
  termination_by structural es => es
def denO : Eo → Env → Obs → R (Option Int)
  | .none, _, o => .ok none o
  | .some e, env, o => ((denP e).v env o).bind fun x o => match x with | .int i => .ok (some i) o | _ => .bad
  termination_by structural e => e
def denC : Eo → Env → Obs → R Bool
  | .none, _, o => .ok true o
  | .some e, env, o => (denP e).t env o
  termination_by structural e => e
def denI : It → Env → Obs → R (List D)
  | .sq e, env, o => ((denP e).v env o).bind fun x o => match x with | .lst ds => .ok ds o | .tup ds => .ok ds o | _ => .bad
  | .r1 a, env, o => ((denP a).v env o).bind fun x o => match x with | .int n => if smallI n then .ok (rangeD 0 n.toNat 1) o else .bad | _ => .bad
  | .r2 a b, env, o => ((denP a).v env o).bind fun x o => ((denP b).v env o).bind fun y o => match x, y with | .int i, .int j => if smallI i && smallI j then .ok (rangeD i (j - i).toNat 1) o else .bad | _, _ => .bad
  | .r3 a b c, env, o => ((denP a).v env o).bind fun x o => ((denP b).v env o).bind fun y o => ((denP c).v env o).bind fun z o => match x, y, z with
    | .int i, .int j, .int k => if Builtin.Range.small i j k && decide (k ≠ 0 ∧ k.natAbs < 1073741824 ∧ 0 ≤ Builtin.Range.rangeSize i j k) then .ok (rangeD i (Builtin.Range.rangeSize i j k).toNat k) o else .bad
    | _, _, _ => .bad
  | .en e, env, o => ((denP e).v env o).bind fun x o => match x with | .lst ds => .ok (enumD ds) o | .tup ds => .ok (enumD ds) o | _ => .bad
  termination_by structural e => e
end
def denE (e : E) : Env → Obs → R D := (denP Φ G e).v
def denT (e : E) : Env → Obs → R Bool := (denP Φ G e).t
def denEs (es : Es) : Env → Obs → R (List D) := (denPs' Φ G es).v
def denCon (es : Es) : Env → Obs → R D := (denPs' Φ G es).cv
def denDis (es : Es) : Env → Obs → R D := (denPs' Φ G es).dv
def denTC (es : Es) : Env → Obs → R Bool := (denPs' Φ G es).ct
def denTD (es : Es) : Env → Obs → R Bool := (denPs' Φ G es).dt
def denF : Fr → Env → Obs → R (List D)
  | .dsp es, env, o => (denEs Φ G es env o).bind fun ds o => if ds.length ≤ sizeLine then .ok ds o else .bad
  | .lc x tg it c own, env, o => (denI Φ G it env o).bind fun ds o => lcD (own.map (·.2)) tg (denC Φ G c) (denE Φ G x) env ds [] o
  | .lo e, env, o => (denE Φ G e env o).bind fun x o => match x with | .lst ds => .ok ds o | .tup ds => .ok ds o | _ => .bad
/-- parts of a parallel store: data, or a list of one's own -/
def denPs : List (E ⊕ Fr) → Env → Obs → R (List Sl)
  | [], _, o => .ok [] o
  | .inl e :: r, env, o => (denE Φ G e env o).bind fun x o => (denPs r env o).bind fun xs o => .ok (.v x :: xs) o
  | .inr f :: r, env, o => (denF Φ G f env o).bind fun x o => (denPs r env o).bind fun xs o => .ok (.ol x :: xs) o
def setSl : List Nat → List Sl → Env → Option Env
  | [], [], env => some env
  | i :: is, s :: ss, env => setSl is ss (env.set i s)
  | _, _, _ => none
def R.st {α : Type} (env : Env) (x : R α) (f : α → Obs → RS) : RS := match x with
  | .ok a o => f a o
  | .ex c a o => .ex c a env o
  | .bad => .bad
def RS.seq (x : RS) (f : Env → Obs → RS) : RS := match x with
  | .nx e o => f e o
  | y => y
@[simp] theorem R.st_ok {α : Type} (env : Env) (a : α) (o : Obs) (f : α → Obs → RS) : (R.ok a o).st env f = f a o := (rfl)
@[simp] theorem R.st_bad {α : Type} (env : Env) (f : α → Obs → RS) : (R.bad : R α).st env f = .bad := (rfl)
@[simp] theorem R.st_ex {α : Type} (env : Env) (c : Str) (a : D) (o : Obs) (f : α → Obs → RS) : (R.ex c a o : R α).st env f = .ex c a env o := (rfl)
@[simp] theorem RS.seq_nx (e : Env) (o : Obs) (f : Env → Obs → RS) : (RS.nx e o).seq f = f e o := (rfl)
@[simp] theorem RS.seq_rt (d : D) (o : Obs) (f : Env → Obs → RS) : (RS.rt d o).seq f = .rt d o := (rfl)
@[simp] theorem RS.seq_bk (e : Env) (o : Obs) (f : Env → Obs → RS) : (RS.bk e o).seq f = .bk e o := (rfl)
@[simp] theorem RS.seq_ct (e : Env) (o : Obs) (f : Env → Obs → RS) : (RS.ct e o).seq f = .ct e o := (rfl)
@[simp] theorem RS.seq_bad (f : Env → Obs → RS) : RS.bad.seq f = .bad := (rfl)
@[simp] theorem RS.seq_ex (c : Str) (a : D) (e : Env) (o : Obs) (f : Env → Obs → RS) : (RS.ex c a e o).seq f = .ex c a e o := (rfl)
/-- a while, so many turns at most -/
def whileD (c : Env → Obs → R Bool) (b : Env → Obs → RS) : Nat → Env → Obs → RS
  | 0, _, _ => .bad
  | n + 1, env, o => (c env o).st env fun k o => if k then (match b env o with
    | .nx e o => whileD c b n e o
    | .ct e o => whileD c b n e o
    | .bk e o => .nx e o
    | y => y) else .nx env o
def forD (tg : Tg) (b : Env → Obs → RS) : List D → Env → Obs → RS
  | [], env, o => .nx env o
  | d :: ds, env, o => match setTg tg d env with
    | none => .bad
    | some env => match b env o with
      | .nx e o => forD tg b ds e o
      | .ct e o => forD tg b ds e o
      | .bk e o => .nx e o
      | y => y
def denHd : Hd → D → Env → Obs → RS
  | .fld i j, .int k, env, o => if i < env.length then .nx (((env.set i .un).set j (.v (.int k))).set i .un) o else .bad
  | .fld _ _, _, _, _ => .bad
  | .set j d, _, env, o => .nx (env.set j (.v d)) o
  | .ret d, _, _, o => .rt d o
/-- the exceptions of one class are caught, others are not followed -/
def tryD (c : Str) (h : Hd) : RS → RS
  | .ex c' a e o => if c' = c then denHd h a e o else .bad
  | y => y
def raiseD (c : Str) (env : Env) (x : D) (o : Obs) : RS := match x with
  | .int i => if i.natAbs < 1000000 then .ex c (.int i) env o else .bad
  | _ => .bad
variable (N : Nat)
mutual
def denS : S → Env → Obs → RS
  | .rse c e, env, o => (denE Φ G e env o).st env (raiseD c env)
  | .trye b c h, env, o => tryD c h (denSs b env o)
  | .set i e, env, o => (denE Φ G e env o).st env fun x o => .nx (env.set i (.v x)) o
  | .new i f, env, o => (denF Φ G f env o).st env fun x o => .nx (env.set i (.ol x)) o
  | .tup ts e, env, o => (denE Φ G e env o).st env fun x o => match setTg (.tp ts) x env with | some env => .nx env o | none => .bad
  | .tgt tg e, env, o => (denE Φ G e env o).st env fun x o => match setTg tg x env with | some env => .nx env o | none => .bad
  | .par ts es, env, o => (denPs Φ G es env o).st env fun xs o => match setSl ts xs env with | some env => .nx env o | none => .bad
  | .aug i op e, env, o => match env[i]? with
    | some (.v x) => (denE Φ G e env o).st env fun y o => match augD op x y with
      | some z => .nx (env.set i (.v z)) o
      | none => .bad
    | _ => .bad
  | .app i e, env, o => match env[i]? with
    | some (.ol ds) => (denE Φ G e env o).st env fun x o => if ds.length < sizeLine then .nx (env.set i (.ol (ds ++ [x]))) o else .bad
    | _ => .bad
  | .ext i e, env, o => match env[i]? with
    | some (.ol ds) => (denE Φ G e env o).st env fun x o => match x with
      | .lst es => if ds.length + es.length ≤ sizeLine then .nx (env.set i (.ol (ds ++ es))) o else .bad
      | _ => .bad
    | _ => .bad
  | .put i k e, env, o => match env[i]? with
    | some (.ol ds) => (denE Φ G e env o).st env fun x o => (denE Φ G k env o).st env fun y o => match y with
      | .int j => match ixN ds.length j with
        | some n => .nx (env.set i (.ol (ds.set n x))) o
        | none => .bad
      | _ => .bad
    | _ => .bad
  | .oput a k e, env, o => (denE Φ G e env o).st env fun x o => (denE Φ G a env o).st env fun y o => (denE Φ G k env o).st env fun z o => match z with
    | .int j => match lsO o y with
      | some ds => match ixN ds.length j with
        | some n => .nx env (setO o y (ds.set n x))
        | none => .bad
      | none => .bad
    | _ => .bad
  | .ret e, env, o => (denE Φ G e env o).st env fun x o => .rt x o
  | .ret0, _, o => .rt .non o
  | .mv i, env, o => match env[i]? with
    | some (.ol ds) => .rt (.lst ds) o
    | _ => .bad
  | .ife c a b, env, o => (denT Φ G c env o).st env fun k o => if k then denSs a env o else denSs b env o
  | .whl c b, env, o => whileD (denT Φ G c) (denSs b) N env o
  | .for_ tg it b, env, o => (denI Φ G it env o).st env fun ds o => forD tg (denSs b) ds env o
  | .exp e, env, o => (denE Φ G e env o).st env fun _ o => .nx env o
  | .pass, env, o => .nx env o
  | .brk, env, o => .bk env o
  | .cnt, env, o => .ct env o
  termination_by structural s => s
def denSs : Ss → Env → Obs → RS
  | .nil, env, o => .nx env o
  | .cons s r, env, o => (denS s env o).seq fun env o => denSs r env o
  | .frz i r, env, o => match env[i]? with
    | some (.ol ds) => denSs r (env.set i (.v (.lst ds))) o
    | _ => denSs r env o
  termination_by structural s => s
end
end
/-! ### programs -/
structure Fn where
  ps : Nat
  sl : Nat
  body : Ss
def runFn (f : Fn) (Φ : Str → List D → Obs → R D) (G : Str → Option D) (N : Nat) (ds : List D) (o : Obs) : R D :=
  if ds.length = f.ps then match denSs Φ G N f.body (ds.map .v ++ List.replicate (f.sl - f.ps) .un) o with
    | .rt d o => .ok d o
    | .nx _ o => .ok .non o
    | .ex c a _ o => .ex c a o
    | _ => .bad
  else .bad
/-- a program: its defs, those whose meaning is given, its constants -/
structure Pg where
  fn : List (Str × Fn)
  xt : List (Str × Nat × (List D → Obs → R D))
  gl : List (Str × D)
def Pg.call (P : Pg) (N : Nat) : Nat → Str → List D → Obs → R D
  | 0, _, _, _ => .bad
  | n + 1, f, ds, o => match P.fn.lookup f with
    | some e => runFn e (P.call N n) (fun x => P.gl.lookup x) N ds o
    | none => match P.xt.lookup f with
      | some g => if g.1 ≤ n + 1 then g.2 ds o else .bad
      | none => .bad
end Mp

set_option Elab.async false
set_option linter.all false
set_option maxRecDepth 100000
/-! The operators over data are the model's. -/
namespace Mp
open PySem PySem.Spec PyProof.Rows L2

section
variable {K : PySem.W.Frag} {CA : Str → Option Addr} {W : Wd} {H : Hp} {obs : Obs} {env : Env} {σ : L2.St}

theorem SRel.fh (S : SRel K CA W σ H env obs) : ∀ p o, W.F p = some o → H p = some o := fun p o h => S.h.fro p o (Wd.F_of.mp h)
theorem SRel.tup (S : SRel K CA W σ H env obs) {v : V} {ds : List D} (h : W.rep K v (.tup ds)) : ∃ p vs, v = .ref p ∧ SqT K H p vs ∧ W.reps K vs ds := by
  obtain ⟨p, vs, e, q, r⟩ := h.to_tup
  exact ⟨p, vs, e, SqT.mono q S.fh, r⟩
theorem SRel.lst (S : SRel K CA W σ H env obs) {v : V} {ds : List D} (h : W.rep K v (.lst ds)) : ∃ p vs, v = .ref p ∧ H p = some (.lst vs) ∧ W.reps K vs ds := by
  obtain ⟨p, vs, e, q, r⟩ := h.to_lst
  exact ⟨p, vs, e, S.fh _ _ q, r⟩
/-- a two-place operation is g over data -/
def Op2 (K : PySem.W.Frag) (CA : Str → Option Addr) (r : R2) (g : D → D → Option D) : Prop :=
  ∀ (W : Wd) (σ : L2.St) (H : Hp) (env : Env) (obs : Obs) (x y : V) (a b d : D) (Q : V → Hp → Prop), SRel K CA W σ H env obs → W.rep K x a → W.rep K y b → g a b = some d →
    (∀ v W' H', W.leE W' H H' → SRel K CA W' σ H' env obs → W'.rep K v d → Q v H') → r x y H Q
/-- a call by values is g over data -/
def Op1 (K : PySem.W.Frag) (CA : Str → Option Addr) (r : List V → Hp → VK → Prop) (g : List D → Option D) : Prop :=
  ∀ (W : Wd) (σ : L2.St) (H : Hp) (env : Env) (obs : Obs) (xs : List V) (as : List D) (d : D) (Q : V → Hp → Prop), SRel K CA W σ H env obs → W.reps K xs as → g as = some d →
    (∀ v W' H', W.leE W' H H' → SRel K CA W' σ H' env obs → W'.rep K v d → Q v H') → r xs H Q
end

/-! ### arithmetic -/
section
variable {X : Cx} {CA : Str → Option Addr}
theorem natAbs_lt {a : Int} (h : a.natAbs < 2 ^ 64) : -(2 ^ 64) < a ∧ a < 2 ^ 64 := by
  have : (2:Nat)^64 = 18446744073709551616 := by decide
  have : (2:Int)^64 = 18446744073709551616 := by decide
  omega
theorem add_ok : ∃ r, OpR X (binaryOp .Add) r ∧ Op2 X.K CA r addD := by
  refine ⟨_, OpR.or op_add (OpR.or op_add_str (OpR.or op_catA op_cat)), ?_⟩
  intro W σ H env obs x y a b d Q S rx ry e q
  unfold addD at e
  split at e
  · cases e; cases rx; cases ry
    exact .inl ⟨_, _, rfl, rfl, q _ W H .refl S (.int _)⟩
  · split at e
    · rename_i h; cases e; cases rx; cases ry
      exact .inr (.inl ⟨_, _, rfl, rfl, h, q _ W H .refl S (.str _)⟩)
    · cases e
  · split at e
    · rename_i u w h; cases e
      obtain ⟨p, vs, rfl, h1, r1⟩ := S.tup rx
      obtain ⟨p2, us, rfl, h2, r2⟩ := S.tup ry
      refine .inr (.inr (.inl ⟨p, p2, vs, us, rfl, rfl, h1, h2, by rw [r1.length, r2.length]; exact h, fun z => ?_, fun _ z => ?_, fun _ _ => GP.tup S q (r1.append r2)⟩))
      · subst z; cases r1; exact q _ W H .refl S ry
      · subst z; cases r2; rw [List.append_nil] at q; exact q _ W H .refl S rx
    · cases e
  · split at e
    · rename_i u w h; cases e
      obtain ⟨p, vs, rfl, h1, r1⟩ := S.lst rx
      obtain ⟨p2, us, rfl, h2, r2⟩ := S.lst ry
      exact .inr (.inr (.inr ⟨p, p2, vs, us, rfl, rfl, h1, h2, by rw [r1.length, r2.length]; exact h, GP.lst S q (r1.append r2)⟩))
    · cases e
  · cases e
theorem sub_ok : ∃ r, OpR X (binaryOp .Sub) r ∧ Op2 X.K CA r subD := by
  refine ⟨_, op_sub, ?_⟩
  intro W σ H env obs x y a b d Q S rx ry e q
  unfold subD at e
  split at e
  · cases e; cases rx; cases ry
    exact ⟨_, _, rfl, rfl, q _ W H .refl S (.int _)⟩
  · cases e
theorem div_ok : ∃ r, OpR X (binaryOp .FloorDiv) r ∧ Op2 X.K CA r divD := by
  refine ⟨_, OpR.or op_fdivN op_fdivW, ?_⟩
  intro W σ H env obs x y a b d Q S rx ry e q
  unfold divD at e
  split at e
  · split at e
    · rename_i i j h; cases e; cases rx; cases ry
      rw [Bool.or_eq_true] at h
      rcases h with h | h
      · exact .inl ⟨_, _, rfl, rfl, (by have := of_decide_eq_true h; exact this), q _ W H .refl S (.int _)⟩
      · have h := of_decide_eq_true h
        rw [Int.fdiv_eq_ediv_of_nonneg _ (by omega)] at q
        exact .inr ⟨_, _, rfl, rfl, h, q _ W H .refl S (.int _)⟩
    · cases e
  · cases e
theorem mod_ok : ∃ r, OpR X (binaryOp .Mod) r ∧ Op2 X.K CA r modD := by
  refine ⟨_, op_modN, ?_⟩
  intro W σ H env obs x y a b d Q S rx ry e q
  unfold modD at e
  split at e
  · split at e
    · cases e
    · rename_i h; cases e; cases rx; cases ry
      exact ⟨_, _, rfl, rfl, h, q _ W H .refl S (.int _)⟩
  · cases e
theorem pow_ok : ∃ r, OpR X (binaryOp .Pow) r ∧ Op2 X.K CA r powD := by
  refine ⟨_, op_pow, ?_⟩
  intro W σ H env obs x y a b d Q S rx ry e q
  unfold powD at e
  split at e
  · split at e
    · rename_i h; cases e; cases rx; cases ry
      exact ⟨_, _, rfl, rfl, (by have := of_decide_eq_true h; exact this), q _ W H .refl S (.int _)⟩
    · cases e
  · cases e
theorem shl_ok : ∃ r, OpR X (binaryOp .LShift) r ∧ Op2 X.K CA r shlD := by
  refine ⟨_, op_shl, ?_⟩
  intro W σ H env obs x y a b d Q S rx ry e q
  unfold shlD at e
  split at e
  · split at e
    · rename_i h; cases e; cases rx; cases ry
      exact ⟨_, _, rfl, rfl, (by have := of_decide_eq_true h; exact this), q _ W H .refl S (.int _)⟩
    · cases e
  · cases e
end

/-! ### comparisons -/
section
variable {K : PySem.W.Frag} {F H : Hp} {A : List Addr}
mutual
theorem Rep.dp (hf : ∀ p o, F p = some o → H p = some o) : ∀ {d : D} {v : V} {x : PyData}, Rep K F A v d → toP d = some x → Dp K H v x
  | .non, _, _, .non, e => by simp [toP] at e; subst e; exact .non
  | .bl _, _, _, .bl _, e => by simp [toP] at e; subst e; exact .bl _
  | .int _, _, _, .int _, e => by simp [toP] at e; subst e; exact .int _
  | .str _, _, _, .str _, e => by simp [toP] at e; subst e; exact .str _
  | .ty _, _, _, .ty _, e => by simp [toP] at e
  | .tup ds, _, _, .tup h r, e => by
    simp only [toP, Option.map_eq_some_iff] at e
    obtain ⟨z, e1, rfl⟩ := e
    exact .tup (SqT.mono h hf) (Reps.dp hf r e1)
  | .lst ds, _, _, .lst h r, e => by
    simp only [toP, Option.map_eq_some_iff] at e
    obtain ⟨z, e1, rfl⟩ := e
    exact .lst (SqL.of (hf _ _ h)) (Reps.dp hf r e1)
  | .dic _, _, _, .dic _ _ _, e => by simp [toP] at e
  | .obj _, _, _, .obj _, e => by simp [toP] at e
  | .loc _, _, _, .loc _, e => by simp [toP] at e
theorem Reps.dp (hf : ∀ p o, F p = some o → H p = some o) : ∀ {ds : List D} {vs : List V} {xs : List PyData}, Reps K F A vs ds → toPs ds = some xs → DpAll K H vs xs
  | [], _, _, .nil, e => by simp [toPs] at e; subst e; exact .nil
  | d :: ds, _, _, .cons h r, e => by
    simp only [toPs, Option.bind_eq_bind, Option.bind_eq_some_iff, Option.some.injEq] at e
    obtain ⟨x, e1, xs, e2, rfl⟩ := e
    exact .cons (Rep.dp hf h e1) (Reps.dp hf r e2)
end
theorem intsD_some : ∀ {ds : List D} {ns : List Int}, intsD ds = some ns → ds = ns.map D.int
  | [], _, e => by simp [intsD] at e; subst e; rfl
  | .int i :: ds, _, e => by
    simp only [intsD, Option.map_eq_some_iff] at e
    obtain ⟨ns, e1, rfl⟩ := e
    rw [intsD_some e1]; rfl
  | .non :: _, _, e => by simp [intsD] at e
  | .bl _ :: _, _, e => by simp [intsD] at e
  | .str _ :: _, _, e => by simp [intsD] at e
  | .ty _ :: _, _, e => by simp [intsD] at e
  | .tup _ :: _, _, e => by simp [intsD] at e
  | .lst _ :: _, _, e => by simp [intsD] at e
  | .dic _ :: _, _, e => by simp [intsD] at e
  | .obj _ :: _, _, e => by simp [intsD] at e
  | .loc _ :: _, _, e => by simp [intsD] at e
theorem blsD_some : ∀ {ds : List D} {ns : List Bool}, blsD ds = some ns → ds = ns.map D.bl
  | [], _, e => by simp [blsD] at e; subst e; rfl
  | .bl i :: ds, _, e => by
    simp only [blsD, Option.map_eq_some_iff] at e
    obtain ⟨ns, e1, rfl⟩ := e
    rw [blsD_some e1]; rfl
  | .non :: _, _, e => by simp [blsD] at e
  | .int _ :: _, _, e => by simp [blsD] at e
  | .str _ :: _, _, e => by simp [blsD] at e
  | .ty _ :: _, _, e => by simp [blsD] at e
  | .tup _ :: _, _, e => by simp [blsD] at e
  | .lst _ :: _, _, e => by simp [blsD] at e
  | .dic _ :: _, _, e => by simp [blsD] at e
  | .obj _ :: _, _, e => by simp [blsD] at e
  | .loc _ :: _, _, e => by simp [blsD] at e
theorem intsD_map (ns : List Int) : intsD (ns.map D.int) = some ns := by
  induction ns with
  | nil => rfl
  | cons n ns ih => simp [intsD, ih]
theorem blsD_map (ns : List Bool) : blsD (ns.map D.bl) = some ns := by
  induction ns with
  | nil => rfl
  | cons n ns ih => simp [blsD, ih]
theorem Rep.flat {v : V} {d : D} (h : Rep K F A v d) (f : flatD d = true) : flatV v = true := by
  cases h <;> first | rfl | (simp [flatD] at f)
theorem Reps.flat : ∀ {vs : List V} {ds : List D}, Reps K F A vs ds → ds.all flatD = true → vs.all flatV = true
  | _, _, .nil, _ => rfl
  | _, _, .cons h r, f => by
    rw [List.all_cons, Bool.and_eq_true] at f
    rw [List.all_cons, Rep.flat h f.1, Reps.flat r f.2]; rfl
theorem Rep.feq {v u : V} {d e : D} (h : Rep K F A v d) (g : Rep K F A u e) (f1 : flatD d = true) (f2 : flatD e = true) : eqV v u = feqD d e := by
  cases h <;> cases g <;> first | rfl | (simp [flatD] at f1) | (simp [flatD] at f2)
theorem Reps.inv {v : V} {d : D} (h : Rep K F A v d) (f : flatD d = true) : ∀ {vs : List V} {ds : List D}, Reps K F A vs ds → ds.all flatD = true → inV v vs = ds.any fun y => feqD y d
  | _, _, .nil, _ => rfl
  | _, _, .cons g r, f2 => by
    rw [List.all_cons, Bool.and_eq_true] at f2
    unfold inV
    rw [List.any_cons, List.any_cons, Rep.feq g h f2.1 f]
    exact congrArg _ (Reps.inv h f r f2.2)
theorem Rep.non_iff {v : V} {d : D} (h : Rep K F A v d) : decide (v = .non) = (match d with | .non => true | _ => false) := by
  cases h <;> simp
end
/-- a comparison is g over data -/
def Cm2 (K : PySem.W.Frag) (CA : Str → Option Addr) (r : R2) (g : D → D → Option Bool) : Prop :=
  ∀ (W : Wd) (σ : L2.St) (H : Hp) (env : Env) (obs : Obs) (x y : V) (a b : D) (k : Bool) (Q : V → Hp → Prop), SRel K CA W σ H env obs → W.rep K x a → W.rep K y b → g a b = some k → Q (.bl k) H → r x y H Q
section
variable {X : Cx} {CA : Str → Option Addr}
theorem eq_ok (hu : X.A.units + 64 < cLine) : ∃ r, OpR X (compareOp .Eq) r ∧ Cm2 X.K CA r eqD := by
  refine ⟨_, op_eqD hu, ?_⟩
  intro W σ H env obs x y a b k Q S rx ry e q
  simp only [eqD, Option.bind_eq_bind, Option.bind_eq_some_iff] at e
  obtain ⟨u, e1, w, e2, e⟩ := e
  split at e
  · rename_i h; cases e
    rw [Bool.and_eq_true] at h
    exact ⟨u, w, Rep.dp S.fh rx e1, Rep.dp S.fh ry e2, h.1, h.2, q⟩
  · cases e
theorem ne_ok (hu : X.A.units + 64 < cLine) : ∃ r, OpR X (compareOp .NotEq) r ∧ Cm2 X.K CA r (fun a b => (eqD a b).map (!·)) := by
  refine ⟨_, op_neD hu, ?_⟩
  intro W σ H env obs x y a b k Q S rx ry e q
  simp only [Option.map_eq_some_iff] at e
  obtain ⟨k', e, rfl⟩ := e
  simp only [eqD, Option.bind_eq_bind, Option.bind_eq_some_iff] at e
  obtain ⟨u, e1, w, e2, e⟩ := e
  split at e
  · rename_i h; cases e
    rw [Bool.and_eq_true] at h
    exact ⟨u, w, Rep.dp S.fh rx e1, Rep.dp S.fh ry e2, h.1, h.2, q⟩
  · cases e
theorem lt_ok (hu : X.A.units < cLine) : ∃ r, OpR X (compareOp .Lt) r ∧ Cm2 X.K CA r ltD := by
  refine ⟨_, OpR.or op_lt (OpR.or (op_ltT hu) op_lt_str), ?_⟩
  intro W σ H env obs x y a b k Q S rx ry e q
  unfold ltD at e
  split at e
  · cases e; cases rx; cases ry
    exact .inl ⟨_, _, rfl, rfl, q⟩
  · simp only [Option.bind_eq_bind, Option.bind_eq_some_iff] at e
    obtain ⟨u, e1, w, e2, e⟩ := e
    cases e
    cases intsD_some e1; cases intsD_some e2
    obtain ⟨p, vs, rfl, h1, r1⟩ := S.tup rx
    obtain ⟨p2, us, rfl, h2, r2⟩ := S.tup ry
    rw [r1.to_ints] at h1; rw [r2.to_ints] at h2
    exact .inr (.inl ⟨p, p2, u, w, rfl, rfl, h1, h2, q⟩)
  · cases e; cases rx; cases ry
    exact .inr (.inr ⟨_, _, rfl, rfl, q⟩)
  · cases e
theorem le_ok : ∃ r, OpR X (compareOp .LtE) r ∧ Cm2 X.K CA r leD := by
  refine ⟨_, op_le, ?_⟩
  intro W σ H env obs x y a b k Q S rx ry e q
  unfold leD at e
  split at e
  · cases e; cases rx; cases ry
    exact ⟨_, _, rfl, rfl, q⟩
  · cases e
theorem gt_ok : ∃ r, OpR X (compareOp .Gt) r ∧ Cm2 X.K CA r (cmpD .Gt) := by
  refine ⟨_, op_gt, ?_⟩
  intro W σ H env obs x y a b k Q S rx ry e q
  unfold cmpD at e
  simp only at e
  split at e
  · cases e; cases rx; cases ry
    exact ⟨_, _, rfl, rfl, q⟩
  · cases e
theorem ge_ok : ∃ r, OpR X (compareOp .GtE) r ∧ Cm2 X.K CA r (cmpD .GtE) := by
  refine ⟨_, op_ge, ?_⟩
  intro W σ H env obs x y a b k Q S rx ry e q
  unfold cmpD at e
  simp only at e
  split at e
  · cases e; cases rx; cases ry
    exact ⟨_, _, rfl, rfl, q⟩
  · cases e
def rInDT (K : PySem.W.Frag) (neg : Bool) : R2 := fun x y H Q => ∃ d ds, Dp K H x d ∧ Dp K H y (.tuple ds) ∧ SeqAt.shaped d = true ∧ SeqAt.shaped (.tuple ds) = true ∧ Q (.bl (if neg then !(ds.any fun z => PyData.eqv z d) else ds.any fun z => PyData.eqv z d)) H
theorem op_inDT (hu : X.A.units + 65 < cLine) : OpR X (compareOp .In) (rInDT X.K false) := by
  intro pins s σ H x y v u Q I rx ry h
  obtain ⟨d, ds, hd, he, sd, se, q⟩ := h
  obtain ⟨as, r1⟩ := Dp.reads I d x v hd rx
  obtain ⟨bs, r2⟩ := Dp.reads I (.tuple ds) y u he ry
  exact SeqAt.in_tuple_reads r2 r1 (SeqAt.canLay_of_shaped se) (SeqAt.canLay_of_shaped sd) (room_in_shaped sd hu) ⟨.bl _, H, I, rfl, q⟩
theorem op_notInDT (hu : X.A.units + 65 < cLine) : OpR X (compareOp .NotIn) (rInDT X.K true) := by
  intro pins s σ H x y v u Q I rx ry h
  obtain ⟨d, ds, hd, he, sd, se, q⟩ := h
  obtain ⟨as, r1⟩ := Dp.reads I d x v hd rx
  obtain ⟨bs, r2⟩ := Dp.reads I (.tuple ds) y u he ry
  exact SeqAt.notIn_tuple_reads r2 r1 (SeqAt.canLay_of_shaped se) (SeqAt.canLay_of_shaped sd) (room_in_shaped sd hu) ⟨.bl _, H, I, rfl, q⟩
theorem in_ok0 {neg : Bool} {W : Wd} {σ : L2.St} {H : Hp} {env : Env} {obs : Obs} {x y : V} {a b : D} {k : Bool} {Q : V → Hp → Prop} (S : SRel X.K CA W σ H env obs) (rx : W.rep X.K x a) (ry : W.rep X.K y b) (e : inD a b = some k) (q : Q (.bl (if neg then !k else k)) H) :
    rIn X.K neg x y H Q ∨ rInDT X.K neg x y H Q := by
  unfold inD at e
  split at e
  · rename_i ds
    split at e
    · rename_i h; cases e
      rw [Bool.and_eq_true] at h
      obtain ⟨p2, us, rfl, h2, r2⟩ := S.tup ry
      exact .inl ⟨p2, us, rfl, .inr h2, rx.flat h.1, r2.flat h.2, by rw [Reps.inv rx h.1 r2 h.2]; exact q⟩
    · simp only [inDeep, Option.bind_eq_bind, Option.bind_eq_some_iff] at e
      obtain ⟨u, e1, w, e2, e⟩ := e
      split at e
      · rename_i h; cases e
        rw [Bool.and_eq_true] at h
        have e3 : toP (.tup ds) = some (.tuple w) := by simp only [toP, e2, Option.map_some]
        exact .inr ⟨u, w, Rep.dp S.fh rx e1, Rep.dp S.fh ry e3, h.1, h.2, q⟩
      · cases e
  · split at e
    · rename_i h; cases e
      rw [Bool.and_eq_true] at h
      obtain ⟨p2, us, rfl, h2, r2⟩ := S.lst ry
      exact .inl ⟨p2, us, rfl, .inl (SqL.of h2), rx.flat h.1, r2.flat h.2, by rw [Reps.inv rx h.1 r2 h.2]; exact q⟩
    · cases e
  · cases e
theorem in_ok (hu : X.A.units + 65 < cLine) : ∃ r, OpR X (compareOp .In) r ∧ Cm2 X.K CA r inD :=
  ⟨_, OpR.or op_in_seq (op_inDT hu), fun W σ H env obs x y a b k Q S rx ry e q => in_ok0 S rx ry e q⟩
theorem notIn_ok (hu : X.A.units + 65 < cLine) : ∃ r, OpR X (compareOp .NotIn) r ∧ Cm2 X.K CA r (fun a b => (inD a b).map (!·)) :=
  ⟨_, OpR.or op_notIn_seq (op_notInDT hu), fun W σ H env obs x y a b k Q S rx ry e q => by
    simp only [Option.map_eq_some_iff] at e
    obtain ⟨k', e, rfl⟩ := e
    exact in_ok0 S rx ry e q⟩
theorem is_ok : ∃ r, OpR X (compareOp .Is) r ∧ Cm2 X.K CA r (cmpD .Is) := by
  refine ⟨_, OpR.or op_isN op_isBl, ?_⟩
  intro W σ H env obs x y a b k Q S rx ry e q
  unfold cmpD at e
  simp only at e
  split at e
  · cases e; cases rx; cases ry; exact .inl ⟨rfl, q⟩
  · rename_i hn
    cases e; cases ry
    refine .inl ⟨rfl, ?_⟩
    rw [rx.non_iff]
    split
    · rename_i z; exact absurd rfl hn
    · exact q
  · cases e; cases rx; cases ry; exact .inr ⟨_, _, rfl, rfl, q⟩
  · cases e
theorem isNot_ok : ∃ r, OpR X (compareOp .IsNot) r ∧ Cm2 X.K CA r (cmpD .IsNot) := by
  refine ⟨_, OpR.or op_notN op_notBl, ?_⟩
  intro W σ H env obs x y a b k Q S rx ry e q
  unfold cmpD at e
  simp only at e
  split at e
  · cases e; cases rx; cases ry; exact .inl ⟨rfl, q⟩
  · rename_i hn
    cases e; cases ry
    refine .inl ⟨rfl, ?_⟩
    rw [rx.non_iff]
    split
    · rename_i z; exact absurd rfl hn
    · exact q
  · cases e; cases rx; cases ry; exact .inr ⟨_, _, rfl, rfl, q⟩
  · cases e
theorem cmp_ok (hu : X.A.units + 65 < cLine) : ∀ op : CmpOp, ∃ r, OpR X (compareOp op) r ∧ Cm2 X.K CA r (cmpD op)
  | .Eq => eq_ok (by omega)
  | .NotEq => ne_ok (by omega)
  | .Lt => lt_ok (by omega)
  | .LtE => le_ok
  | .Gt => gt_ok
  | .GtE => ge_ok
  | .Is => is_ok
  | .IsNot => isNot_ok
  | .In => in_ok hu
  | .NotIn => notIn_ok hu
end
end Mp

set_option Elab.async false
set_option linter.all false
set_option maxRecDepth 100000
set_option maxHeartbeats 4000000
/-! Two rules of the model for tuples: read from behind, and taken so many times. -/
namespace Mp
open PySem PySem.Spec PyProof.Rows L2 HT

section
variable {prog : Program} {w : World} {A : Around} {E : Value → Shared → Prop} {s : Shared}
theorem sliceApplied_back {sl : Addr} {vs : Value} {n : Nat} {Q : Int × Int × Nat → Shared → Prop} (hs : s.heap.IsSliceOf sl .none .none vs) (pl : IsPart vs (some (-1)))
    (h : Q ((n : Int) - 1, -1, n) s) : wpAny (model prog w) A (Builtin.Slice.sliceApplied (.ref sl) (pure (n : Int))) Q E s := by
  obtain ⟨os, hos, hcs, hds⟩ := id hs
  unfold Builtin.Slice.sliceApplied Builtin.Slice.sliceFields
  refine wpAny_bind (wpAny_bind (wpAny_field hos hds (x := .none) rfl (wpAny_bind (wpAny_field hos hds (x := .none) rfl (wpAny_bind (wpAny_field hos hds (x := vs) rfl (wpAny_pure ?_)))))))
  refine wpAny_bind (slicePart_ pl ?_)
  show wpAny _ _ (if ((-1 : Int) == 0) = true then _ else _) _ _ s
  rw [if_neg (by decide)]
  refine wpAny_bind (slicePart_none (wpAny_bind (slicePart_none (wpAny_bind (wpAny_pure ?_)))))
  show wpAny _ _ (match Builtin.Slice.sliceAdjust none none (-1) (n : Int) with | (lo, hi) => pure (lo, (-1 : Int), Builtin.Slice.slicePlaces lo hi (-1))) _ _ s
  have e1 : Builtin.Slice.sliceAdjust none none (-1) (n : Int) = ((n : Int) - 1, -1) := by
    unfold Builtin.Slice.sliceAdjust
    simp
  rw [e1]
  have e2 : Builtin.Slice.slicePlaces ((n : Int) - 1) (-1) (-1) = n := by
    unfold Builtin.Slice.slicePlaces
    simp
    split
    · omega
    · omega
  show wpAny _ _ (pure ((n : Int) - 1, (-1 : Int), Builtin.Slice.slicePlaces ((n : Int) - 1) (-1) (-1))) _ _ s
  rw [e2]
  exact wpAny_pure h
theorem fm_congr {α β : Type} {f g : α → Option β} : ∀ {l : List α}, (∀ a ∈ l, f a = g a) → l.filterMap f = l.filterMap g
  | [], _ => rfl
  | a :: l, h => by
    rw [List.filterMap_cons, List.filterMap_cons, h a List.mem_cons_self, fm_congr fun b hb => h b (List.mem_cons_of_mem _ hb)]
theorem pick_back (xs : Array Value) : ((List.range xs.size).filterMap fun (m : Nat) => xs[(((xs.size : Int) - 1) + (m : Int) * -1).toNat]?).toArray = xs.toList.reverse.toArray := by
  have e : ∀ m ∈ List.range xs.size, xs[(((xs.size : Int) - 1) + (m : Int) * -1).toNat]? = (fun (m : Nat) => xs[xs.size - 1 - m]?) m := by
    intro m hm
    have := List.mem_range.mp hm
    have : (((xs.size : Int) - 1) + (m : Int) * -1).toNat = xs.size - 1 - m := by omega
    rw [this]
  rw [fm_congr e]
  congr 1
  have e2 : (fun (m : Nat) => xs[xs.size - 1 - m]?) = (fun i => xs[i]?) ∘ (fun m => xs.size - 1 - m) := rfl
  rw [e2, ← List.filterMap_map, PySem.W.krv_range, List.filterMap_reverse, PySem.W.krv_all]
theorem getItem_tuple_back {t sl : Addr} {items : Array Value} {vs : Value} {Q : Value → Shared → Prop} (ht : IsTup s.heap t items) (hs : s.heap.IsSliceOf sl .none .none vs) (pl : IsPart vs (some (-1)))
    (h : Q (.ref s.heap.objs.size) { s with heap := s.heap.push { cls := .type "tuple", data := .seq items.toList.reverse.toArray } })
    (hsz : items.size ≤ sizeLine) : wpAny (model prog w) A (getItem (.ref t) (.ref sl)) Q E s := by
  have htake : sizeOk (.seq items.toList.reverse.toArray) := by
    show items.toList.reverse.toArray.size ≤ sizeLine
    rw [List.size_toArray, List.length_reverse, Array.length_toList]
    exact hsz
  obtain ⟨os, hos, hcs, hds⟩ := id hs
  have hTs : s.TypeIs (.ref sl) "slice" := ⟨os, hos, hcs⟩
  unfold getItem
  try with_reducible refine wpAny_holding ?_
  first | refine wpAny_bind (wpAny_pure ?_) | skip
  refine wpAny_bind (wpAny_sequenceKey ht.typeIs (by decide) ?_)
  refine wpAny_bind (wpAny_callSpecial?_slot (name := Str.ofString "__getitem__") ht.typeIs PyProof.Rows.slot_tuple_getitem
    (wpAny_call_entry PyProof.Rows.slot_tuple_getitem ht.typeIs entry_tuple_getitem ?_ (args_tuple_getitem _ _)))
  show wpAny _ _ (Builtin.Tuple.tupleItemsOf (.ref t) >>= _) _ _ s
  refine wpAny_bind (tupleItemsOf_ ht ?_)
  refine wpAny_bind (wpAny_typeOf hTs ?_)
  rw [if_pos (by decide)]
  refine wpAny_bind (sliceApplied_back hs pl ?_)
  have hno : ¬ ((((items.size : Int) - 1) == 0 && (-1 : Int) == 1 && items.size == items.size) = true) := by
    intro q
    rw [Bool.and_eq_true, Bool.and_eq_true] at q
    have q1 : (-1 : Int) = 1 := eq_of_beq q.1.2
    omega
  show wpAny _ _ (if (((items.size : Int) - 1) == 0 && (-1 : Int) == 1 && items.size == items.size) = true then _ else _) _ _ s
  rw [if_neg hno, pick_back]
  first
    | exact wpAny_bind (m := Builtin.Tuple.tupleExact _) (wpAny_newObj_type (wpAny_pure ⟨_, rfl, wpAny_pure h⟩) htake)
    | exact wpAny_bind (m := Builtin.Tuple.tupleExact _) (wpAny_newObj_type (wpAny_bind (wpAny_pure (wpAny_pure ⟨_, rfl, wpAny_pure h⟩))) htake)
    | exact wpAny_bind (wpAny_bind (m := Builtin.Tuple.tupleExact _) (wpAny_newObj_type (wpAny_pure (wpAny_pure ⟨_, rfl, wpAny_pure h⟩)) htake))
    | exact wpAny_bind (wpAny_bind (m := Builtin.Tuple.tupleExact _) (wpAny_newObj_type (wpAny_pure ⟨_, rfl, wpAny_pure h⟩) htake))

theorem tuple_mul1 (l : Addr) (items : Array Value) (n : Nat) (dd : Option Addr) (sl : Array (Option Value)) (x : Int) (u : Tok) (c0 : (decide (x < -(2 ^ 63)) || decide (x ≥ 2 ^ 63)) = false) (c1 : (items.isEmpty || x == 1) = true) :
    Meets (Builtin.«tuple.__mul__» ⟨[.ref l, .int x u], []⟩) (fun _ R s => s.heap.get? l = some { cls := .type "tuple", dict := dd, data := .seq items n, slots := sl } ∧ R (.ok (.ret (Value.ref l))) s) :=
  .of_wp fun prog w A R s h => by
    obtain ⟨hp, g, d, tk, os⟩ := s
    obtain ⟨hl, h⟩ := h
    have f1 := AutoSeq1.idx_int
    wp_walk using wpAny_loadPart' hl
    repeat (first
      | (refine wpAny_ite_false (decide_eq_false (by rw [c0]; exact Bool.false_ne_true)) ?_; wp_walk using wpAny_loadPart' hl)
      | (refine wpAny_ite_true (decide_eq_true (by rw [c1])) ?_; wp_walk using wpAny_loadPart' hl))
    exact ⟨_, rfl, h⟩
theorem tuple_mul0 (l : Addr) (items : Array Value) (n : Nat) (dd : Option Addr) (sl : Array (Option Value)) (x : Int) (u : Tok) (c0 : (decide (x < -(2 ^ 63)) || decide (x ≥ 2 ^ 63)) = false) (c1 : (items.isEmpty || x == 1) = false) (c2 : (decide (x ≤ 0) || items.isEmpty) = true) :
    Meets (Builtin.«tuple.__mul__» ⟨[.ref l, .int x u], []⟩) (fun _ R s => s.heap.get? l = some { cls := .type "tuple", dict := dd, data := .seq items n, slots := sl } ∧
      R (.ok (.ret (Value.ref s.heap.objs.size))) { s with heap := s.heap.push { cls := Value.type "tuple", data := Data.seq #[] }, toks := s.toks }) :=
  .of_wp fun prog w A R s h => by
    obtain ⟨hp, g, d, tk, os⟩ := s
    obtain ⟨hl, h⟩ := h
    have f1 := AutoSeq1.idx_int
    wp_walk using wpAny_loadPart' hl
    repeat (first
      | (refine wpAny_ite_false (decide_eq_false (by rw [c0]; exact Bool.false_ne_true)) ?_; wp_walk using wpAny_loadPart' hl)
      | (refine wpAny_ite_false (decide_eq_false (by rw [c1]; exact Bool.false_ne_true)) ?_; wp_walk using wpAny_loadPart' hl)
      | (refine wpAny_ite_true (decide_eq_true (by rw [c2])) ?_; wp_walk using wpAny_loadPart' hl))
    exact ⟨_, rfl, h⟩
end
section
variable {X : Cx}
def rRepA (K : PySem.W.Frag) : R2 := fun x y H Q => ∃ l k xs, x = .ref l ∧ y = .int k ∧ SqT K H l xs ∧ -(2 ^ 63) ≤ k ∧ k < 2 ^ 63 ∧ xs.length * k.toNat ≤ 1000000 ∧
  ((xs = [] ∨ k = 1) → Q (.ref l) H) ∧ (¬ (xs = [] ∨ k = 1) → ∀ p, H p = none → Q (.ref p) (upd H p (.tup (List.replicate k.toNat xs).flatten)))
theorem op_repA : OpR X (binaryOp .Mult) (rRepA X.K) := by
  intro pins s σ H x y v u Q I rx ry h
  obtain ⟨l, k, xs, rfl, rfl, hT, h1, h2, hz, qs, qn⟩ := h
  cases rx
  obtain ⟨t, rfl⟩ := ry
  obtain ⟨its, r, ⟨⟨cls, dd, data, sl⟩, ho, hc, n, hd⟩, hs⟩ := I.tuple hT
  simp only at hc hd
  subst hc hd
  have hle : its.length = xs.length := r.length.symm
  have c0 : (decide (k < -(2 ^ 63)) || decide (k ≥ 2 ^ 63)) = false := by
    rw [decide_eq_false (by omega), decide_eq_false (by omega)] <;> rfl
  have hi : its.toArray.isEmpty = true ↔ xs = [] := by
    cases its with
    | nil => cases xs with
      | nil => simp
      | cons _ _ => simp at hle
    | cons a b => cases xs with
      | nil => simp at hle
      | cons _ _ => simp
  have road : ∀ {Q' : Value → Shared → Prop} {C : Around → (Result → Shared → Prop) → Shared → Prop}, Meets (Builtin.«tuple.__mul__» ⟨[.ref l, .int k t], []⟩) C →
      (∀ A R s', s' = s → (∀ u s2, R (.ok (.ret u)) s2 = Q' u s2) → C A R s') → True := fun _ _ => trivial
  by_cases hsame : xs = [] ∨ k = 1
  · have c1 : (its.toArray.isEmpty || k == 1) = true := by
      rcases hsame with e | e
      · rw [hi.mpr e]; rfl
      · subst e; simp
    refine wpAny_binaryOp_repeat_ref (T := "tuple") (U := "int") (by decide) ⟨_, ho, rfl⟩ (fun s' => typeIs_int s' k t) noFill_tuple_mul F.fills_int_mul F.slot_int_rmul repeat_tuple F.slot_int_index.lookup
      (call_meets F.slot_int_rmul (typeIs_int s k t) F.entry_int_rmul (F.args_int_rmul_2 _ _) (int_rmul_tuple k t l its.toArray n dd sl)
        ⟨ho, rfl, ⟨_, ho, rfl⟩, call_meets F.slot_tuple_mul ⟨_, ho, rfl⟩ F.entry_tuple_mul (F.args_tuple_mul_2 _ _) (tuple_mul1 l its.toArray n dd sl k t c0 c1) ⟨ho, ?_⟩⟩)
    exact ⟨.ref l, H, I, rfl, qs hsame⟩
  · have c1 : (its.toArray.isEmpty || k == 1) = false := by
      have a1 : its.toArray.isEmpty = false := by
        cases q : its.toArray.isEmpty with
        | false => rfl
        | true => exact absurd (.inl (hi.mp q)) hsame
      rw [a1, Bool.false_or]
      exact beq_eq_false_iff_ne.mpr fun e => hsame (.inr e)
    have a1 : its.toArray.isEmpty = false := (Bool.or_eq_false_iff.mp c1).1
    by_cases h0 : k ≤ 0
    · have c2 : (decide (k ≤ 0) || its.toArray.isEmpty) = true := by rw [decide_eq_true h0]; rfl
      refine wpAny_binaryOp_repeat_ref (T := "tuple") (U := "int") (by decide) ⟨_, ho, rfl⟩ (fun s' => typeIs_int s' k t) noFill_tuple_mul F.fills_int_mul F.slot_int_rmul repeat_tuple F.slot_int_index.lookup
        (call_meets F.slot_int_rmul (typeIs_int s k t) F.entry_int_rmul (F.args_int_rmul_2 _ _) (int_rmul_tuple k t l its.toArray n dd sl)
          ⟨ho, rfl, ⟨_, ho, rfl⟩, call_meets F.slot_tuple_mul ⟨_, ho, rfl⟩ F.entry_tuple_mul (F.args_tuple_mul_2 _ _) (tuple_mul0 l its.toArray n dd sl k t c0 c1 c2) ⟨ho, ?_⟩⟩)
      have hk : k.toNat = 0 := by omega
      have := qn hsame s.heap.objs.size (I.hok.fresh (Nat.le_refl _))
      rw [hk, List.replicate_zero, List.flatten_nil] at this
      exact ⟨.ref s.heap.objs.size, _, I.laid (t' := s.toks) (o := .tup []) (fun b ob q => Heap.get?_push_of_some _ q) (Nat.le_refl _) ⟨Nat.zero_le _, _, .nil, IsTup.new _ _⟩, rfl, this⟩
    · have c2 : (decide (k ≤ 0) || its.toArray.isEmpty) = false := by rw [a1, decide_eq_false h0]; rfl
      have hsz0 : its.toArray.size = xs.length := by rw [List.size_toArray, hle]
      have hm : ((its.toArray.size : Nat) : Int) * k ≤ 1000000 := by
        rw [hsz0]
        have e : (((xs.length * k.toNat : Nat)) : Int) = (xs.length : Int) * k := by rw [Int.natCast_mul, Int.toNat_of_nonneg (by omega)]
        omega
      have flen : (List.replicate k.toNat its).flatten.length ≤ sizeLine := by
        rw [PyProof.Rows.lm_len_rep_flat, hle, sizeLine_eq, Nat.mul_comm]
        omega
      have c4 : Builtin.Tuple.tupleTooMany (((its.toArray.size : Nat) : Int) * k) = false := by
        unfold Builtin.Tuple.tupleTooMany
        rw [sizeLine_eq]
        exact decide_eq_false (by omega)
      refine wpAny_binaryOp_repeat_ref (T := "tuple") (U := "int") (by decide) ⟨_, ho, rfl⟩ (fun s' => typeIs_int s' k t) noFill_tuple_mul F.fills_int_mul F.slot_int_rmul repeat_tuple F.slot_int_index.lookup
        (call_meets F.slot_int_rmul (typeIs_int s k t) F.entry_int_rmul (F.args_int_rmul_2 _ _) (int_rmul_tuple k t l its.toArray n dd sl)
          ⟨ho, rfl, ⟨_, ho, rfl⟩, call_meets F.slot_tuple_mul ⟨_, ho, rfl⟩ F.entry_tuple_mul (F.args_tuple_mul_2 _ _) (tuple_mulW l its.toArray n dd sl k t c0 c1 c2 (by omega) c4 (by rw [size_rep, List.size_toArray]; exact flen)) ⟨ho, ?_⟩⟩)
      rw [size_rep]
      refine ⟨.ref s.heap.objs.size, _, I.laid (t' := s.toks) (o := .tup (List.replicate k.toNat xs).flatten) (fun b ob q => Heap.get?_push_of_some _ q) (Nat.le_refl _) ?_, rfl, qn hsame _ (I.hok.fresh (Nat.le_refl _))⟩
      exact ⟨by rw [PyProof.Rows.lm_len_rep_flat, sizeLine_eq, Nat.mul_comm]; omega, _, r.rep k.toNat, IsTup.new _ _⟩
/-- e[::-1] of a list or a tuple -/
def tRevA (K : PySem.W.Frag) (te : TE) : TE := fun σ H Q => te σ H fun x H1 => ∃ a xs, x = .ref a ∧ ((SqL K H1 a xs ∧ ∀ p, H1 p = none → Q (.ref p) (upd H1 p (.lst xs.reverse))) ∨ (SqT K H1 a xs ∧ ∀ p, H1 p = none → Q (.ref p) (upd H1 p (.tup xs.reverse))))
theorem pe_revA {e : Expr} {te : TE} {k : Nat} {p1 p2 p3 pos : Pos} (he : PE X e te) : PE X (.Subscript e (.Slice none none (some (.UnaryOp .USub (.Constant (.int 1) k p1) p2)) p3) pos) (tRevA X.K te) := by
  refine ⟨fun pins s σ H Q I h => ?_⟩
  refine Subscript_ (thn (he.run pins s σ H _ I h) fun v s1 ⟨x, H1, I1, r1, q1⟩ => ?_)
  obtain ⟨a, xs, ex, hx⟩ := q1
  subst ex
  cases r1
  have hst : PO X (some (.UnaryOp .USub (.Constant (.int 1) k p1) p2)) (tPart (tUn (rU fun i => .int (-i)) (tC (.int 1)))) := po_some (pe_un un_neg pe_int)
  refine wpAny_Slice (thn (po_none.run pins s1 σ H1 (fun o H2 => o = none ∧ H2 = H1) I1 ⟨rfl, rfl⟩) fun vl s2 ⟨l, H2, I2, pl, el, e2⟩ => ?_)
  subst el e2
  refine thn (po_none.run pins s2 σ H2 (fun o H3 => o = none ∧ H3 = H2) I2 ⟨rfl, rfl⟩) fun vu s3 ⟨u, H3, I3, pu, eu, e3⟩ => ?_
  subst eu e3
  refine thn (hst.run pins s3 σ H3 (fun o H4 => o = some (-1) ∧ H4 = H3) I3 ⟨1, rfl, -1, rfl, rfl, rfl⟩) fun vs s4 ⟨o, H4, I4, ps, eo, e4⟩ => ?_
  subst eo e4
  have I5 : Inv X pins σ H4 { s4 with heap := s4.heap.push { cls := .type "slice", data := .fields #[vl, vu, vs] } } := I4.kept (t' := s4.toks) fun b ob q => Heap.get?_push_of_some _ q
  show wpAny (model X.prog X.w) X.A (subscriptTail e (.Slice none none (some (.UnaryOp .USub (.Constant (.int 1) k p1) p2)) p3) (.ref a) (.ref s4.heap.objs.size)) (EP X pins σ Q) X.xe { s4 with heap := s4.heap.push { cls := .type "slice", data := .fields #[vl, vu, vs] } }
  rcases hx with ⟨hx, q⟩ | ⟨hx, q⟩
  · obtain ⟨its, r, ht, hz⟩ := I5.list hx
    have hlen := r.length
    refine tail_any (ops := [.ref a, .ref s4.heap.objs.size]) ht.isList.typeIs (PySem.slot_list_getitem.lookup) ?_ (by with_unfolding_all rfl)
    refine wpAny_getItem_list_slice ht.isList (Heap.IsSliceOf.new _ vl vu vs) pl pu ps (by decide) ?_ (by rw [List.size_toArray]; omega)
    rw [PySem.W.krv_pick]
    refine ⟨.ref _, _, I5.laid (t' := s4.toks) (o := .lst xs.reverse) (fun b ob q => Heap.get?_push_of_some _ q) (Nat.le_refl _) ?_, rfl, q _ (I5.hok.fresh (Nat.le_refl _))⟩
    exact ⟨by rw [List.length_reverse]; exact hz, _, 0, r.reverse, Heap.get?_push_size _ rfl⟩
  · obtain ⟨its, r, ht, hz⟩ := I5.tuple hx
    have hlen := r.length
    cases pl
    cases pu
    refine tail_any (ops := [.ref a, .ref s4.heap.objs.size]) ht.typeIs (PyProof.Rows.slot_tuple_getitem.lookup) ?_ (by with_unfolding_all rfl)
    refine getItem_tuple_back ht (Heap.IsSliceOf.new _ .none .none vs) ps ?_ (by rw [List.size_toArray]; omega)
    refine ⟨.ref _, _, I5.laid (t' := s4.toks) (o := .tup xs.reverse) (fun b ob q => Heap.get?_push_of_some _ q) (Nat.le_refl _) ?_, rfl, q _ (I5.hok.fresh (Nat.le_refl _))⟩
    exact ⟨by rw [List.length_reverse]; exact hz, _, r.reverse, IsTup.new _ _⟩
end
end Mp

set_option Elab.async false
set_option linter.all false
set_option maxRecDepth 100000
/-! More calls of the model: the least of a tuple, a set of a list of numbers. -/
namespace Mp
open PySem PySem.Spec PyProof.Rows L2

section
variable {prog : Program} {w : World} {A : Around} {E : Value → Shared → Prop} {s : Shared} {l : Addr} {xs : Array (Int × Tok)}
theorem iter_tupI {Q : Value → Shared → Prop} (hl : s.heap.IsTuple l (intItems xs))
    (h : ∀ s2 : Shared, s2 = { s with heap := s.heap.push { cls := .type "tuple_iterator", data := .fields #[.ref l, .int 0 0] } } →
      (s2.heap.IsTupleIter s.heap.objs.size l 0 ∧ s2.heap.IsTuple l (intItems xs)) → (∀ b ∈ [s.heap.objs.size, l], b < s2.heap.objs.size) → l ≠ s.heap.objs.size → Q (.ref s.heap.objs.size) s2) :
    wpAny (model prog w) A (pyIter (.ref l)) Q E s := by
  have hlt : l < s.heap.objs.size := by obtain ⟨_, e, _⟩ := hl; exact Heap.lt_size e
  refine wpAny_pyIter_tuple hl (h _ rfl ⟨⟨_, Heap.get?_push_size _ rfl, rfl, rfl⟩, hl.push _⟩ (fun b hb => ?_) (Nat.ne_of_lt hlt))
  show b < (s.heap.push _).objs.size
  rw [Heap.size_push]
  simp only [List.mem_cons, List.not_mem_nil, or_false] at hb
  rcases hb with e | e
  · rw [e]; exact Nat.lt_succ_self _
  · rw [e]; exact Nat.lt_succ_of_lt hlt
theorem old_keptT {h' : Heap} (hk : ∀ b o, b ∉ [s.heap.objs.size] → (s.heap.push { cls := .type "tuple_iterator", data := .fields #[.ref l, .int 0 0] }).get? b = some o → h'.get? b = some o) :
    ∀ b o, s.heap.get? b = some o → h'.get? b = some o := fun b o e => by
  refine hk b o (fun hm => ?_) (Heap.get?_push_of_some _ e)
  have h1 := Heap.lt_size e
  simp only [List.mem_cons, List.not_mem_nil, or_false] at hm
  exact absurd (hm ▸ h1) (Nat.lt_irrefl _)
theorem min_tupI {Q : Value → Shared → Prop} (hh : A.handled = none) (hl : s.heap.IsTuple l (intItems xs)) (hne : 0 < xs.size)
    (h : ∀ v h' tk, (intItems xs)[argBest (fun i j => decide (numAt xs i < numAt xs j)) (xs.size - 1)]? = some v → (∀ b o, s.heap.get? b = some o → h'.get? b = some o) → Q v { s with heap := h', toks := tk }) :
    wpAny (model prog w) A (call (.builtin "min") [.ref l]) Q E s := by
  refine call_min_walk (iter_tupI hl fun s2 e st hfp hlI => ?_)
  subst e
  refine ⟨_, _, _, _, _, _, _, rfl, Walks.tuple (A := A.in1) hh _ l hlI (intItems xs), st, hfp, by simpa [intItems] using hne, CmpOf.ints_lt (numAt xs) (fun _ _ => intItems_at), fun v h' tk hP hk => ?_⟩
  exact h v h' tk (by simpa [intItems] using hP) (old_keptT hk)
theorem max_tupI {Q : Value → Shared → Prop} (hh : A.handled = none) (hl : s.heap.IsTuple l (intItems xs)) (hne : 0 < xs.size)
    (h : ∀ v h' tk, (intItems xs)[argBest (fun i j => decide (numAt xs i > numAt xs j)) (xs.size - 1)]? = some v → (∀ b o, s.heap.get? b = some o → h'.get? b = some o) → Q v { s with heap := h', toks := tk }) :
    wpAny (model prog w) A (call (.builtin "max") [.ref l]) Q E s := by
  refine call_max_walk (iter_tupI hl fun s2 e st hfp hlI => ?_)
  subst e
  refine ⟨_, _, _, _, _, _, _, rfl, Walks.tuple (A := A.in1) hh _ l hlI (intItems xs), st, hfp, by simpa [intItems] using hne, CmpOf.ints_gt (numAt xs) (fun _ _ => intItems_at), fun v h' tk hP hk => ?_⟩
  exact h v h' tk (by simpa [intItems] using hP) (old_keptT hk)
variable {its : List Value} {ns : List Int}
theorem min_rawT {Q : Value → Shared → Prop} (hh : A.handled = none) (hl : s.heap.IsTuple l its.toArray) (hi : IntsAre its ns) (hne : 0 < ns.length)
    (h : ∀ h' tk M t', (∀ b o, s.heap.get? b = some o → h'.get? b = some o) → M ∈ ns → (∀ a, a ∈ ns → M ≤ a) → Q (.int M t') { s with heap := h', toks := tk }) : wpAny (model prog w) A (call (.builtin "min") [.ref l]) Q E s := by
  obtain ⟨xs, e⟩ := hi.allInts.items
  have hn : numsOf (intItems xs).toList = ns := by rw [← e]; exact hi.numsOf
  rw [nums_intItems] at hn
  subst hn
  rw [e] at hl
  have hsz : 0 < xs.size := by simpa using hne
  refine min_tupI hh hl hsz fun v h' tk hv hk => ?_
  obtain ⟨t, rfl⟩ := intItems_at hv
  obtain ⟨h1, h2⟩ := argBest_lt (numAt xs) (xs.size - 1)
  refine h h' tk _ t hk ?_ fun a ha => ?_
  · rw [numAt_eq]; exact PySem.getD_mem (by rw [List.length_map, Array.length_toList]; omega)
  · obtain ⟨j, hj, rfl⟩ := mem_getD ha
    rw [List.length_map, Array.length_toList] at hj
    rw [← numAt_eq]; exact h2 j (by omega)
theorem max_rawT {Q : Value → Shared → Prop} (hh : A.handled = none) (hl : s.heap.IsTuple l its.toArray) (hi : IntsAre its ns) (hne : 0 < ns.length)
    (h : ∀ h' tk M t', (∀ b o, s.heap.get? b = some o → h'.get? b = some o) → M ∈ ns → (∀ a, a ∈ ns → a ≤ M) → Q (.int M t') { s with heap := h', toks := tk }) : wpAny (model prog w) A (call (.builtin "max") [.ref l]) Q E s := by
  obtain ⟨xs, e⟩ := hi.allInts.items
  have hn : numsOf (intItems xs).toList = ns := by rw [← e]; exact hi.numsOf
  rw [nums_intItems] at hn
  subst hn
  rw [e] at hl
  have hsz : 0 < xs.size := by simpa using hne
  refine max_tupI hh hl hsz fun v h' tk hv hk => ?_
  obtain ⟨t, rfl⟩ := intItems_at hv
  obtain ⟨h1, h2⟩ := argBest_gt (numAt xs) (xs.size - 1)
  refine h h' tk _ t hk ?_ fun a ha => ?_
  · rw [numAt_eq]; exact PySem.getD_mem (by rw [List.length_map, Array.length_toList]; omega)
  · obtain ⟨j, hj, rfl⟩ := mem_getD ha
    rw [List.length_map, Array.length_toList] at hj
    rw [← numAt_eq]; exact h2 j (by omega)
end
section
variable {P : Program} {w : World} {A : Around} {E : Value → Shared → Prop} {s : Shared}
/-- what stands behind set(xs): numbers of a list -/
abbrev newSetObj (w : World) : Obj := { cls := .type "set", dict := none, data := .set #[] 0 (.fresh 0 0 (!w.params.followText "set-order")) }
set_option maxHeartbeats 3200000 in
theorem set_of_list {q : Addr} {its : Array Value} (ks : List Int) {Q : Value → Shared → Prop} (ha : A.handled = none) (hq : s.heap.IsList q its) (hi : IntsAre its.toList ks) (hs : ks.length + 1 < scanBound)
    (h : ∀ (h' : Heap) (tk c : Nat), SetR w h' s.heap.objs.size (fun j => decide (j ∈ ks)) c → c ≤ ks.length → (∀ b o, s.heap.get? b = some o → h'.get? b = some o) → Q (.ref s.heap.objs.size) { s with heap := h', toks := tk }) :
    wpAny (model P w) A (call (.type "set") [.ref q]) Q E s := by
  have hlen : its.size = ks.length := by
    have z := IntsAre.length hi
    rwa [Array.length_toList] at z
  have f0 := F.called_set.mro
  obtain ⟨c0, tl0, f0⟩ := f0
  have f1 := F.called_set.made
  have f2 := F.called_set.sub
  have f3 := F.called_set.notType
  have f4 := F.called_set.canCreate
  have f5 := F.typeCall_set_1 (.ref q)
  refine wpAny_call (codeAny_of_tree ?_)
  show wpAny _ _ (callAny (.type "set") _) _ _ _
  refine wpAny_pure ⟨Code.quiet_builtin _ (by decide +kernel), codeAny_builtin F.entry_type_call ?_⟩
  rw [Around.under_plain (weight_type_call_type "set" [.ref q] []) rfl]
  repeat (any_goals (first | assumption | wp_step))
  refine codeAny_mono (code_set_led1 (.ref q) (E := E) (Q₁ := fun ob s1 => ob = .ref s.heap.objs.size ∧ s1 = { s with heap := s.heap.push (newSetObj w) }) ⟨rfl, rfl⟩) fun r s1 hr => ?_
  match r, hr with
  | .ok (.ret ob), hr =>
    obtain ⟨rfl, rfl⟩ := hr
    have g1 : (s.heap.push (newSetObj w)).get? s.heap.objs.size = some (newSetObj w) := Heap.get?_push_size _ rfl
    have g2 : Shared.TypeIs { s with heap := s.heap.push (newSetObj w) } (.ref s.heap.objs.size) "set" := ⟨_, g1, rfl⟩
    have g3 := F.called_set.init.lookup
    have g4 := F.called_set.init.bind (.ref s.heap.objs.size)
    repeat (any_goals (first | assumption | wp_step))
    refine codeAny_mono (codeAny_call_builtin (R := wants (fun r s2 => r = .none ∧ ∃ h' tk c, s2 = { s with heap := h', toks := tk } ∧ SetR w h' s.heap.objs.size (fun j => decide (j ∈ ks)) c ∧ c ≤ ks.length ∧
        (∀ b o, s.heap.get? b = some o → h'.get? b = some o)) E) F.called_set.init.plain F.entry_set_init (check_set_init_1 g2 ?_)) fun r2 s2 hr2 => ?_
    · obtain ⟨⟨tc, td, tdat, tsl⟩, k1, k2, nl, k3⟩ := hq
      simp only at k2 k3
      subst k2 k3
      have k4 : (s.heap.push (newSetObj w)).get? q = some { cls := .type "list", dict := td, data := .seq its nl, slots := tsl } := Heap.get?_push_of_some _ k1
      have k5 := F.sub_list_set
      have k6 := F.sub_list_frozenset
      have k7 : (Value.type "list" == Value.type "dict") = false := by decide
      have k8 : (s.heap.push (newSetObj w)).IsList q its := ⟨_, k4, rfl, nl, rfl⟩
      unfold Builtin.«set.__init__» noKeywords Builtin.Frozenset.updateFrom
      generalize hPI : pyIter = PI
      wp_walk
      subst hPI
      refine wpAny_pyIter_list k8 ?_
      refine wpAny_bind (wpAny_runValue ?_)
      have q1 : q < s.heap.objs.size := Heap.lt_size k1
      have q2 : A.in1.in1.in1.handled = none := by simp [ha]
      have q3 : q ≠ (s.heap.push (newSetObj w)).objs.size := by
        rw [Heap.size_push]; exact Nat.ne_of_lt (Nat.lt_succ_of_lt q1)
      have q4 : s.heap.objs.size ∉ [(s.heap.push (newSetObj w)).objs.size, q] := by
        rw [Heap.size_push]
        intro z
        simp only [List.mem_cons, List.not_mem_nil, or_false] at z
        rcases z with z | z
        · exact absurd z (Nat.ne_of_lt (Nat.lt_succ_self _))
        · exact absurd z (Nat.ne_of_gt q1)
      have q5 : ∀ (i : Nat) (v : Value), its[i]? = some v → ∃ k t, ks[i]? = some k ∧ v = .int k t := fun i v hv => by
        have hb : i < ks.length := by rw [← hlen]; exact (Array.getElem?_eq_some_iff.mp hv).1
        obtain ⟨t, e⟩ := PyProof.Rows.IntsAre.int_at hi i v (by rw [Array.getElem?_toList]; exact hv)
        refine ⟨ks[i], t, List.getElem?_eq_getElem hb, ?_⟩
        rw [e, List.getD_eq_getElem?_getD, List.getElem?_eq_getElem hb] <;> rfl
      refine set_update_ints ((Walks.list q2 _ q q3 its).toS) s.heap.objs.size q4 ks hlen hs q5 (its.size - 0) 0 _ (by omega) (Nat.zero_le _)
        ⟨⟨_, Heap.get?_push_size _ rfl, rfl, rfl⟩, (k8.push _)⟩ ?c0 ?cR
      case c0 => exact ⟨0, Nat.le_refl 0, setR_new_at (Heap.get?_push_of_some _ g1)⟩
      case cR =>
        intro s' c' hm hc' hS'
        obtain ⟨h', y1, y2, tk', y3⟩ := s'
        have e1 : y1 = s.gens := hm.gens
        have e2 : y2 = s.drawn := hm.drawn
        have e3 : y3 = s.os := hm.os
        subst e1 e2 e3
        show wpAny _ _ _ _ _ _
        refine wpAny_pure ?_
        show wpAny _ _ (ret Value.none) _ _ _
        rw [hlen] at hc'
        refine wpAny_pure ⟨rfl, h', tk', c', rfl, hS', hc', fun b o e => hm.heap b o (fun z => ?_) (Heap.get?_push_of_some _ (Heap.get?_push_of_some _ e))⟩
        have b0 : b < s.heap.objs.size := Heap.lt_size e
        simp only [List.mem_cons, List.not_mem_nil, or_false] at z
        rcases z with z | z
        · exact absurd z (Nat.ne_of_lt b0)
        · rw [Heap.size_push] at z
          exact absurd z (Nat.ne_of_lt (Nat.lt_succ_of_lt b0))
    · match r2, hr2 with
      | .ok (.ret r), hr2 =>
        obtain ⟨rfl, h', tk, c', rfl, z1, z2, z3⟩ := hr2
        repeat (any_goals (first | assumption | wp_step))
        exact h _ _ _ z1 z2 z3
      | .error e, hr2 => exact hr2
      | .ok .next, hr2 => exact hr2.elim
      | .ok .brk, hr2 => exact hr2.elim
      | .ok .cont, hr2 => exact hr2.elim
  | .error e, hr => exact hr
  | .ok .next, hr => exact hr.elim
  | .ok .brk, hr => exact hr.elim
  | .ok .cont, hr => exact hr.elim
end
section
variable {X : Cx}
def rSetL (K : PySem.W.Frag) (w : World) : List V → Hp → VK → Prop := fun vs H Q => ∃ (a : Addr) (ns : List Int), vs = [V.ref a] ∧ SqL K H a (ns.map V.int) ∧ ns.length + 1 < scanBound ∧
  ∀ (p : Addr) (c : Nat), H p = none → c ≤ ns.length → Q (.ref p) (upd H p (SetO w p (fun j => decide (j ∈ ns)) c))
theorem call_setL (hc : X.calm = true) : CallR X (.type "set") (rSetL X.K X.w) := by
  intro pins s σ H vs us Q I r h
  obtain ⟨a, ns, rfl, hs, hb, q⟩ := h
  obtain ⟨its, rv, hl, _⟩ := I.list hs
  rw [Vals.ref1 r]
  refine set_of_list ns (I.ok.hd hc) hl.isList rv.ints hb fun h' tk c z1 z2 z3 => ?_
  exact ⟨.ref _, upd H s.heap.objs.size (SetO X.w s.heap.objs.size (fun j => decide (j ∈ ns)) c), I.laid z3 (Nat.le_refl _) (setO_new z1), rfl, q _ c (I.hok.fresh (Nat.le_refl _)) z2⟩
def rMinT (K : PySem.W.Frag) : List V → Hp → VK → Prop := fun vs H Q => ∃ (a : Addr) (ns : List Int), vs = [V.ref a] ∧ SqT K H a (ns.map V.int) ∧ 0 < ns.length ∧ ∀ m, m ∈ ns → (∀ k, k ∈ ns → m ≤ k) → Q (.int m) H
def rMaxT (K : PySem.W.Frag) : List V → Hp → VK → Prop := fun vs H Q => ∃ (a : Addr) (ns : List Int), vs = [V.ref a] ∧ SqT K H a (ns.map V.int) ∧ 0 < ns.length ∧ ∀ m, m ∈ ns → (∀ k, k ∈ ns → k ≤ m) → Q (.int m) H
theorem cr_minT (hc : X.calm = true) : CallR X (.builtin "min") (rMinT X.K) := by
  intro pins s σ H vs us Q I r h
  obtain ⟨a, ns, rfl, hs, hne, q⟩ := h
  obtain ⟨its, rv, hl, _⟩ := I.tuple hs
  rw [Vals.ref1 r]
  obtain ⟨o, ho, hcl, hdt⟩ := hl
  exact min_rawT (I.ok.hd hc) ⟨o, ho, hcl, hdt⟩ rv.ints hne fun h' tk m t' hk h1 h2 => ⟨.int _, H, I.kept hk, ⟨_, rfl⟩, q m h1 h2⟩
theorem cr_maxT (hc : X.calm = true) : CallR X (.builtin "max") (rMaxT X.K) := by
  intro pins s σ H vs us Q I r h
  obtain ⟨a, ns, rfl, hs, hne, q⟩ := h
  obtain ⟨its, rv, hl, _⟩ := I.tuple hs
  rw [Vals.ref1 r]
  obtain ⟨o, ho, hcl, hdt⟩ := hl
  exact max_rawT (I.ok.hd hc) ⟨o, ho, hcl, hdt⟩ rv.ints hne fun h' tk m t' hk h1 h2 => ⟨.int _, H, I.kept hk, ⟨_, rfl⟩, q m h1 h2⟩
end
end Mp

set_option Elab.async false
set_option linter.all false
set_option maxRecDepth 100000
set_option maxHeartbeats 4000000
/-! Exception classes over ValueError whose __init__ hands a text on and keeps a place. -/
namespace Mp
open PySem PySem.Spec PyProof.Rows L2

/-- a def of a class's text -/
def inCls (st : Stmt) (j : Nat) : Stmt := match st with
  | .ClassDef _ _ _ b _ _ _ _ _ _ _ => b.getD j (.Pass ⟨0, 0, 0, 0⟩)
  | s => s
/-- the text of such an __init__ -/
structure BadT (st : Stmt) (msg : Str) : Prop where
  body : ∃ p0 p1 p2 k p3 p4 p5 p6 p7 p8 p9 p10 p11 p12 p13, defBody st =
    [.Expr (.Call (.Attribute (.Call (.Name "super" p0) [] [] p1) "__init__" p2) [.BinOp (.Constant (.str msg) k p3) .Add (.Call (.Name "str" p4) [.Name "place" p5] [] p6) p7] [] p8) p9,
     .Assign [.Attribute (.Name "self" p10) "place" p11] (.Name "place" p12) p13] ∧ p2.endLine = p8.line
  args : ∃ a1 a2, (defArgs st).posonlyargs ++ (defArgs st).args = [a1, a2] ∧ a1.arg = "self" ∧ a2.arg = "place"
  kind : (defScope st).kind = .function
  co : (defScope st).isCoroutine = false
  gen : (defScope st).isGenerator = false
  n1 : (defScope st).names.lookup ("self" : Str) = some .local
  n2 : (defScope st).names.lookup ("place" : Str) = some .local
  n3 : (defScope st).names.lookup ("__class__" : Str) = some .free
  n4 : (defScope st).names.lookup ("super" : Str) = some .globalImplicit
  n5 : (defScope st).names.lookup ("str" : Str) = some .globalImplicit
  n6 : (defScope st).names.all (fun y => y.2 != .cell && (y.2 != .free || y.1 == ("__class__" : Str))) = true
  few : msg.length < 100
  b : ∀ (nm qual : Str) (kV doc pm : Value) (an : Option Addr) (cdv ct : Value) (cc : Addr) (us : List Value), us.length = 2 → bindArgs (PySem.W.ksFn nm qual (defArgs st) (defBody st) (defScope st) .none kV doc pm an cdv ct cc) ⟨us, []⟩ = pure ((["self", "place"] : List Str).zip us)
/-- what the written part says of it -/
structure BadC (P : Program) (K : PySem.W.Frag) (st : Stmt) (C fI cc cda : Addr) : Prop where
  o : OexC K C
  ini : PySem.W.findIn K (.ref C) "__init__" = some (some (.ref fI))
  typ : PySem.W.typeIn K (.ref fI) = some (.type "function")
  fn : ∃ oc od osl qual kV doc pm an ct, K.lookup fI = some ⟨oc, od, .func (PySem.W.ksFn "__init__" qual (defArgs st) (defBody st) (defScope st) .none kV doc pm an (.ref cda) ct cc), osl⟩ ∧ PySem.W.codeIn K (.ref cda) qual = true
  code : ∃ ccl cdd vs ccs file tf, K.lookup cda = some ⟨ccl, cdd, .fields vs, ccs⟩ ∧ vs[2]? = some (.str file tf) ∧ ((P.main.file : Str) == file) = true
  cell : ∃ cl cld csl, K.lookup cc = some ⟨cl, cld, .cell (some (.ref C)), csl⟩
  cls : ∃ cd, PySem.W.clsIn K C = some cd
  sub : PySem.W.mroIn K C (.ref C) = some true
  sup : PySem.W.ks_superIn K C C "__init__" = some (some (.builtin "ValueError.__init__"))
  ve : PySem.W.subIn K (.ref C) (.type "ValueError") = some true
  s1 : PySem.W.nsIn K mainGlobals "super" = some none
  s2 : PySem.W.nsIn K mainGlobals "str" = some none
  tp : PySem.W.nsIn K cStatics "thirdparty.any" = some none
  pl : PySem.W.findIn K (.ref C) "place" = some none
  xf : XfC K C
  ex : PySem.W.exmOne K (.ref C) (.ref C) = some true
  top : (P.main.scope.names.lookup ("super" : Str)).isSome = false
/-- the promise of such an __init__: the place is kept, the rest of it is not told -/
def spInit (C : Addr) : Sp := fun vs H Q _ => ∃ (a : Addr) (i : Int), vs = [.ref a, .int i] ∧ i.natAbs < 1000000 ∧ H a = some (exo a C none) ∧ ∀ dx, H dx = none → dx ≠ a → Q .non (upd (upd H dx (exd dx [(("place" : Str), .int i)])) a (exo a C (some dx)))

section
variable {P : Program} {w : World} {K : PySem.W.Frag} {mg : Str → Option Value} {base : Heap}
/-- the context of the __init__'s body -/
def cxI (P : Program) (w : World) (K : PySem.W.Frag) (mg : Str → Option Value) (base : Heap) (qual : Str) (scope : Scope) (f cc : Addr) (cd : Value) (A : Around) (outer : List PySem.Env) (s : Shared) (H : Hp) (xe : Value → Shared → Prop) : Cx where
  prog := P
  w := w
  K := K
  mg := mg
  base := base
  A := A.deeper (PySem.W.ksEnv qual scope s.heap.objs.size f cd cc)
  N := ["self", "place"]
  s_0 := s
  H_0 := H
  env := PySem.W.ksEnv qual scope s.heap.objs.size f cd cc
  outer := outer
  stack := PySem.W.ksEnv qual scope s.heap.objs.size f cd cc :: outer
  ex := []
  calm := true
  fn := fun x => !(x == ("__class__" : Str))
  pn := []
  xe := xe
theorem cells_one {cc c : Addr} {x : Str} (h : ([(("__class__" : Str), cc)] : List (Str × Addr)).lookup x = some c) : x = "__class__" ∧ c = cc := by
  rw [List.lookup_cons] at h
  by_cases e : x = ("__class__" : Str)
  · subst e; simp at h; exact ⟨rfl, h.symm⟩
  · have : (x == ("__class__" : Str)) = false := by simpa using e
    rw [this] at h; simp at h
theorem inv_init {qual : Str} {st : Stmt} {msg : Str} {f cc : Addr} {cd : Value} {A : Around} {outer : List PySem.Env} {s : Shared} {h1 : Heap} {tk : Nat} {H : Hp} {xe : Value → Shared → Prop} {a : Addr} {i : Int} {u : Tok} {oc : Obj} {z : Option Value}
    (T : BadT st msg) (hcc : K.lookup cc = some oc) (hoc : oc.data = .cell z) (hd : A.handled = none) (e0 : Env0 P w K mg base A outer s H)
    (hns : h1.Ns s.heap.objs.size (fun x => (([("self" : Str), "place"].zip [Value.ref a, .int i u] : List (Str × Value))).reverse.lookup x)) (hk : ∀ b o, s.heap.get? b = some o → h1.get? b = some o) :
    Inv (cxI P w K mg base qual (defScope st) f cc cd A outer s H xe) [] [some (.ref a), some (.int i)] H { s with heap := h1, toks := tk } := by
  have hb := e0.bs cc oc (e0.mod.kin _ _ hcc)
  have hcl : ∀ y c, (cxI P w K mg base qual (defScope st) f cc cd A outer s H xe).env.cells.lookup y = some c → y = ("__class__" : Str) ∧ c = cc := fun y c e => cells_one e
  have noA : ∀ b : Addr, b ∉ (cxI P w K mg base qual (defScope st) f cc cd A outer s H xe).ex := fun b z => absurd (show b ∈ ([] : List Addr) from z) (by simp)
  refine ⟨⟨e0.mod, T.kind, rfl, rfl, Nat.le_refl _, fun x y c e1 e2 => ?_, fun x hx => ?_, fun x c hf e => ?_, fun _ => hd, Around.frames_deeper e0.frames, .inr ⟨rfl, rfl⟩, fun b z => absurd z (noA b), e0.bs, e0.bsz, fun b _ _ => noA b, fun b z => absurd z (noA b), e0.funs, e0.frf⟩,
    rfl, e0.bare, Un.kept hk, ⟨_, hns, fun i' y v h1' h2' h3' => ?_⟩, fun y c e => ?_, e0.hok.fresh (Nat.le_refl _), fun y c e => ?_, fun p hp => absurd (show p ∈ ([] : List (Addr × Obj)) from hp) (by simp), e0.hok.kept hk, rfl⟩
  · rw [(hcl x c e1).1, (hcl y c e2).1]
  · have hall := List.all_eq_true.mp T.n6
    have hx : (defScope st).names.lookup x = some .cell ∨ (defScope st).names.lookup x = some .free := hx
    have : x = ("__class__" : Str) := by
      rcases hx with hx | hx
      · have := hall _ (PySem.mem_of_lookup hx); simp at this
      · have := hall _ (PySem.mem_of_lookup hx); simpa using this
    subst this
    exact ⟨cc, rfl⟩
  · have := (hcl x c e).1
    subst this
    simp [cxI] at hf
  · match i', h1', h2' with
    | 0, h1', h2' =>
      have e1 : y = ("self" : Str) := (Option.some.inj h1').symm
      have e2 : v = .ref a := (Option.some.inj (Option.some.inj h2')).symm
      subst e1 e2
      exact ⟨.ref a, rfl, .inl ⟨T.n1, by simp [List.lookup, show (("self" : Str) == "place") = false from by decide]⟩⟩
    | 1, h1', h2' =>
      have e1 : y = ("place" : Str) := (Option.some.inj h1').symm
      have e2 : v = .int i := (Option.some.inj (Option.some.inj h2')).symm
      subst e1 e2
      exact ⟨.int i u, ⟨u, rfl⟩, .inl ⟨T.n2, by simp [List.lookup]⟩⟩
    | n + 2, h1', _ => simp [cxI] at h1'
  · obtain ⟨_, rfl⟩ := hcl y c e
    exact ⟨z, oc, hk _ _ hb.1, hoc⟩
  · obtain ⟨_, rfl⟩ := hcl y c e
    exact hb.2
/-- the built-in __init__, bound to an exception that is being made, is called -/
theorem mw_call {X : Cx} {pins : List (Addr × Obj)} {σ : L2.St} {H : Hp} {s : Shared} {A : Around} {E : Value → Shared → Prop} {a C u : Addr} {us : List Value} {Q : Value → Shared → Prop}
    (T : OexC X.K C) (I : Inv X pins σ H s) (e : H a = some (exo a C none)) (hu : s.heap.get? u = some (PySem.W.kxs_mw "ValueError.__init__" a)) (hl : us.length ≤ sizeLine)
    (h : ∀ s', Inv X pins σ H s' → Q .none s') : wpAny (model X.prog X.w) A (call (.ref u) us) Q E s := by
  obtain ⟨nm, q, N, bs, bm, sn, sub, ab, col, dd, k0, k1, k2, k3, k5, hC, hbm⟩ := T.cls
  obtain ⟨t1, ho⟩ := exo_at I.hok e
  have fin : ∀ h', (∀ b o, b ≠ a → s.heap.get? b = some o → h'.get? b = some o) → h'.get? a = some ({ cls := .ref C, dict := none, data := .fields #[.ref s.heap.objs.size, .none, .none, .none, .bool false, .none] } : Obj) → Q .none { s with heap := h' } := fun h' k hx => by
    have J := I.write (t' := s.toks) (x := a) (e := a) (o := exo a C none) (by rw [e]; exact True.intro) (.inl rfl) k ⟨_, hx⟩ (exo_ok hx)
    have eu : upd H a (exo a C none) = H := by
      funext b
      by_cases hb : b = a
      · rw [hb, upd_same, e]
      · rw [upd_ne hb]
    rw [eu] at J
    exact h _ J
  obtain ⟨hp, g, d, t, os⟩ := s
  refine wpAny_call (codeAny_of_tree ?_)
  show wpAny _ A.in1 (callAny (.ref u) ⟨us, []⟩) _ _ _
  simp only [callAny]
  refine wpAny_bind (wpAny_load hu ?_)
  have hmw : (Value.type "method-wrapper" == Value.type "method" || Value.type "method-wrapper" == Value.type "builtin_function_or_method" || Value.type "method-wrapper" == Value.type "method-wrapper") = true := by decide
  simp only [PySem.W.kxs_mw, hmw, if_true]
  refine PySem.W.KFB.if_so (by decide) ?_
  refine wpAny_bind (PySem.W.check_bound_init F.excBase_ValueError.toExcCallFacts (I.kIn _ _ hC) ho rfl ?_)
  refine wpAny_bind (wpAny_pure (wpAny_pure ?_))
  refine ⟨plainId_quiet F.excBase_ValueError.init.plain _, codeAny_builtin F.excBase_ValueError.initEntry ?_⟩
  refine PySem.W.exc_init_tree (cls := .ref C) (t0 := t1) (dv := none) (c2 := .none) (c3 := .none) (b4 := .bool false) ho hl fun h' k hx _ => ?_
  exact fin h' k hx
/-- o.name(..), o looked at where the call's own code is -/
theorem at_mcall {M : Model} {A : Around} {c : Code} {E : Value → Shared → Prop} {s : Shared} {env : PySem.Env} {o : Expr} {name : Str} {apos pos : Pos} {es : List Expr} {Q : Value → Shared → Prop} (hline : apos.endLine = pos.line)
    (hform : methodCallForm (es.length + ([] : List Keyword).length) (backTo pos (starEach es env)) (backToKw pos (keywordEach [] env)) = true)
    (h : _root_.PySem.wpAt M A c (attributeBase o name env (eval o env)) (fun ov s1 => wpAny M A (getMethod ov name (do return (← importBound o env).getD true)) (fun fx s2 => wpAny M A (callWith pos fx.1 fx.2 (backTo pos (starEach es env)) []) Q E s2) E s1) E s) :
    _root_.PySem.wpAt M A c (eval (.Call (.Attribute o name apos) es [] pos) env) Q E s := by
  have hpos : methodCallPos true o env apos pos = pure pos := by unfold methodCallPos; simp [hline]
  rw [arm_eval_Call]
  refine _root_.PySem.wpAt_bind (ks_wpAt_mono h (fun ov s1 h1 => _root_.PySem.wpAt_of_wpAny (wpAny_bind (wpAny_standAt ?_))) fun _ _ x => x)
  unfold methodCall
  rw [hform]
  refine wpAny_bind (wpAny_holding (wpAny_mono h1 (fun fx s2 h2 => ?_) fun _ _ x => x))
  exact wpAny_bind (wpAny_of_eq hpos h2)
/-- .. its first row: super().__init__(text + str(place)) -/
theorem init_row1 {C fI cc cda : Addr} {st : Stmt} {msg : Str} {qual : Str} {A : Around} {outer : List PySem.Env} {s s1 : Shared} {H : Hp} {xe : Value → Shared → Prop} {a : Addr} {i : Int} {body : List Stmt} {p0 p1 p2 p3 p4 p5 p6 p7 p8 p9 : Pos} {k : Nat} {Q : Flow → Shared → Prop}
    (T : BadT st msg) (B : BadC P K st C fI cc cda) (hpos : p2.endLine = p8.line) (hs : mg "super" = none) (ht : mg "str" = none) (hi : i.natAbs < 1000000) (ha : H a = some (exo a C none))
    (I : Inv (cxI P w K mg base qual (defScope st) fI cc (.ref cda) A outer s H xe) [] [some (.ref a), some (.int i)] H s1)
    (h : ∀ s', Inv (cxI P w K mg base qual (defScope st) fI cc (.ref cda) A outer s H xe) [] [some (.ref a), some (.int i)] H s' → Q .next s') :
    _root_.PySem.wpAt (model P w) (A.deeper (PySem.W.ksEnv qual (defScope st) s.heap.objs.size fI (.ref cda) cc)) (.func body (PySem.W.ksEnv qual (defScope st) s.heap.objs.size fI (.ref cda) cc))
      (exec (.Expr (.Call (.Attribute (.Call (.Name "super" p0) [] [] p1) "__init__" p2) [.BinOp (.Constant (.str msg) k p3) .Add (.Call (.Name "str" p4) [.Name "place" p5] [] p6) p7] [] p8) p9) (PySem.W.ksEnv qual (defScope st) s.heap.objs.size fI (.ref cda) cc)) Q xe s1 := by
  obtain ⟨oc, od, osl, qual', kV, doc, pm, an, ct, lk, hcd⟩ := B.fn
  obtain ⟨ccl, cdd, vs0, ccs, file, tf, hcda, hvs0, hfile⟩ := B.code
  obtain ⟨cl, cld, csl, hcell⟩ := B.cell
  obtain ⟨cd, hD⟩ := B.cls
  obtain ⟨a1, a2, hargs, ha1, ha2⟩ := T.args
  have KX := I.kIn
  obtain ⟨oD, hD1, hD2⟩ : ∃ oD, s1.heap.get? C = some oD ∧ oD.data = .cls cd := by
    have hD' := hD
    unfold PySem.W.clsIn at hD'
    split at hD'
    · rename_i c d cd' sl ho
      cases hD'
      exact ⟨_, KX _ _ ho, rfl⟩
    · cases hD'
  obtain ⟨t1, hoa⟩ := exo_at I.hok ha
  obtain ⟨m, hns, hl⟩ := id I.loc
  obtain ⟨v0, rv0, lk0⟩ := hl 0 "self" (.ref a) rfl rfl (.inl T.n1)
  obtain rfl : v0 = .ref a := rv0
  have hms : m "self" = some (.ref a) := by
    rcases lk0 with ⟨_, z⟩ | ⟨z, _⟩
    · exact z
    · have e1 : (defScope st).names.lookup ("self" : Str) = some .local := T.n1
      rcases z with z | z
      · exact absurd (e1.symm.trans z) (by decide)
      · exact absurd (e1.symm.trans z) (by decide)
  obtain ⟨mb, hb1, hb2⟩ := I.mod.blt
  have hsh : Env.kindOf (PySem.W.ksEnv qual (defScope st) s.heap.objs.size fI (.ref cda) cc) "super" = some .globalImplicit := T.n4
  have hch : Env.kindOf (PySem.W.ksEnv qual (defScope st) s.heap.objs.size fI (.ref cda) cc) "__class__" = some .free := T.n3
  refine ks_wpAt_Expr_any (env := PySem.W.ksEnv qual (defScope st) s.heap.objs.size fI (.ref cda) cc) (at_mcall hpos rfl ?_) I.quiet rfl
  refine ks_wpAt_super_base (env := PySem.W.ksEnv qual (defScope st) s.heap.objs.size fI (.ref cda) cc) (ar := a1) (fd := PySem.W.ksFn "__init__" qual' (defArgs st) (defBody st) (defScope st) .none kV doc pm an (.ref cda) ct cc) hsh hch (by decide) rfl (KX _ _ lk) rfl (by show ((defArgs st).posonlyargs ++ (defArgs st).args).head? = _; rw [hargs]; rfl) rfl (KX _ _ hcda) rfl hvs0 hfile B.top ?_
  refine PySem.W.ks_loadName_global T.kind hsh (Calls.loadGlobal_builtin (env := PySem.W.ksEnv qual (defScope st) s.heap.objs.size fI (.ref cda) cc) (I.mod.glob.keeps I.bk) hs (hb1.keeps I.bk) ((hb2 _ (by decide)).trans PyProof.Rows.Boot.«super») ⟨rfl, ?_⟩)
  refine wpAny_loadName_free T.kind hch rfl ⟨_, KX _ _ hcell, rfl⟩ ?_
  rw [ha1]
  refine wpAny_loadName_local T.kind T.n1 hns hms ?_
  have InA : PySem.W.InstAt s1.heap a { cls := .ref C, dict := none, data := .fields #[.ref t1, .none, .none, .none, .bool false, .none] } C none := ⟨hoa, rfl, rfl, trivial⟩
  have hxC : a ≠ C := PySem.W.ks_ne KX InA hD
  obtain ⟨hp, g, d, tk, os⟩ := s1
  refine ks_wpAny_isType_cls hD1 hD2 ⟨rfl, ?_⟩
  refine ks_wpAny_call_super hD1 hD2 hoa rfl (fun c z => by cases z) (PySem.W.looks_mroIn KX B.sub) fun h2 hso hk2 => ?_
  have I2 : Inv (cxI P w K mg base qual (defScope st) fI cc (.ref cda) A outer s H xe) [] [some (.ref a), some (.int i)] H ⟨h2, g, d, tk, os⟩ := I.kept (t' := tk) hk2
  have K2 := I2.kIn
  have InA2 : PySem.W.InstAt h2 a { cls := .ref C, dict := none, data := .fields #[.ref t1, .none, .none, .none, .bool false, .none] } C none := ⟨hk2 _ _ hoa, rfl, rfl, trivial⟩
  have hsup := B.sup
  unfold PySem.W.ks_superIn at hsup
  rw [hD] at hsup
  refine PySem.W.kxs_getMethod PySem.W.kxs_ValueError hso (PySem.W.looks_opaque K2 B.tp) (l₀ := cd.mro) (fun A Q E s k q => wpAny_bind ((PySem.W.looks_clsIn K2 hD) A _ E s k (wpAny_pure q))) rfl K2 hsup (InA2.type.andThen (PySem.W.looks_subIn K2 B.ve)) hxC (by decide) ?_
  have hpu : (h2.push (PySem.W.kxs_mw "ValueError.__init__" a)).get? h2.objs.size = some (PySem.W.kxs_mw "ValueError.__init__" a) := Heap.get?_push_at rfl rfl
  have I3 : Inv (cxI P w K mg base qual (defScope st) fI cc (.ref cda) A outer s H xe) [] [some (.ref a), some (.int i)] H ⟨h2.push (PySem.W.kxs_mw "ValueError.__init__" a), g, d, tk + 1, os⟩ := I2.kept (t' := tk + 1) fun b o e => Heap.get?_push_of_some _ e
  have lt2 := I2.lt
  have I4 : Inv (cxI P w K mg base qual (defScope st) fI cc (.ref cda) A outer s H xe) [(h2.objs.size, PySem.W.kxs_mw "ValueError.__init__" a)] [some (.ref a), some (.int i)] H ⟨h2.push (PySem.W.kxs_mw "ValueError.__init__" a), g, d, tk + 1, os⟩ := I3.pins_of fun p hp => by
    obtain rfl := List.mem_singleton.mp hp
    refine ⟨hpu, I2.hok.fresh (Nat.le_refl _), fun z => ?_, fun z => ?_, fun v z => by cases z⟩
    · have : (cxI P w K mg base qual (defScope st) fI cc (.ref cda) A outer s H xe).env.locals < h2.objs.size := lt2
      rw [← z] at this; exact absurd this (Nat.lt_irrefl _)
    · obtain ⟨_, o, e, _⟩ := Heap.FunFrames.mem I2.stack.2.2 (b := h2.objs.size) z
      exact absurd (Heap.lt_size e) (Nat.lt_irrefl _)
  show wpAny _ _ (callWith p8 (.ref h2.objs.size) [] (backTo p8 (starEach [.BinOp (.Constant (.str msg) k p3) .Add (.Call (.Name "str" p4) [.Name "place" p5] [] p6) p7] (PySem.W.ksEnv qual (defScope st) s.heap.objs.size fI (.ref cda) cc))) []) _ _ _
  refine PySem.W.kxs_callWith (i := "ValueError.__init__") (x := a) rfl (Calls.evalArgs_plain ?_)
  have hg : Gl (cxI P w K mg base qual (defScope st) fI cc (.ref cda) A outer s H xe) "str" := T.n5
  have pe : PE (cxI P w K mg base qual (defScope st) fI cc (.ref cda) A outer s H xe) (.BinOp (.Constant (.str msg) k p3) .Add (.Call (.Name "str" p4) [.Name "place" p5] [] p6) p7) _ :=
    pe_op op_add_str pe_str (pe_callTy call_str_int hg ht PyProof.Rows.Boot.«str» (pa_cons (pe_var (i := 1) rfl (.inl T.n2)) pa_nil))
  refine thn ((pa_cons pe pa_nil).run p8 _ _ _ _ (fun vs H' => H' = H ∧ vs.length = 1) I4 ?_) fun us s2 ⟨vs, H2, J, rv, hH, hlen⟩ => ?_
  · have h1 := PyProof.Rows.len_str_of_int i
    have h2 := T.few
    refine ⟨.int i, rfl, i, rfl, ?_, msg, toString i, rfl, rfl, ?_, rfl, rfl⟩
    · exact PyProof.Rows.shown_abs (N := 1000000) (by split <;> omega) (by decide +kernel)
    · rw [sizeLine_eq]
      have h3 : ((toString i : Str).length : Int) ≤ i.natAbs + 2 := h1
      omega
  · subst hH
    have hu := (J.pin (h2.objs.size, PySem.W.kxs_mw "ValueError.__init__" a) (by simp [cxI])).1
    exact ⟨hu, mw_call B.o (J.pins_of (pins' := []) fun p hp => by cases hp) ha hu (by show us.length ≤ sizeLine; rw [← rv.length, hlen, sizeLine_eq]; decide) fun s' J' => h s' J'⟩
/-- THE WALK of such an __init__ -/
theorem init_ok {C fI cc cda : Addr} {st : Stmt} {msg : Str} (T : BadT st msg) (B : BadC P K st C fI cc cda) (hs : mg "super" = none) (ht : mg "str" = none) :
    ∃ fd, FnOk P w K mg base (L2.CX P w) 1 fI fd ["self", "place"] (spInit C) ∧ Binds K fd ["self", "place"] [] := by
  obtain ⟨oc, od, osl, qual, kV, doc, pm, an, ct, lk, hcd⟩ := B.fn
  obtain ⟨ccl, cdd, vs0, ccs, file, tf, hcda, hvs0, hfile⟩ := B.code
  obtain ⟨cl, cld, csl, hcell⟩ := B.cell
  obtain ⟨cd, hD⟩ := B.cls
  refine ⟨_, ⟨fun vs H Q E q => ?_, fun A outer s H args us vs Q E hr e0 hb r hsp => ?_⟩, Binds.all (fd := PySem.W.ksFn "__init__" qual (defArgs st) (defBody st) (defScope st) .none kV doc pm an (.ref cda) ct cc) fun us hl => T.b _ _ _ _ _ _ _ _ _ us hl⟩
  · obtain ⟨a, i, rfl, _⟩ := q
    rfl
  obtain ⟨a, i, rfl, hi, ha, hq⟩ := hsp
  obtain ⟨u0, us1, rfl, r0, r1⟩ : ∃ u0 us1, us = u0 :: us1 ∧ RelV (.ref a) u0 ∧ Vals [.int i] us1 := by cases r with | cons x y => exact ⟨_, _, rfl, x, y⟩
  obtain ⟨u1, us2, rfl, r2, r3⟩ : ∃ u1 us2, us1 = u1 :: us2 ∧ RelV (.int i) u1 ∧ Vals [] us2 := by cases r1 with | cons x y => exact ⟨_, _, rfl, x, y⟩
  obtain rfl : us2 = [] := by cases r3; rfl
  obtain rfl : u0 = .ref a := r0
  obtain ⟨tk, rfl⟩ := r2
  have KX : K.In s.heap := e0.mod.kin.keeps fun b o e => (e0.bs b o e).1
  have lim : s.heap.NoLimit := e0.mod.nolimit.keeps fun b o e => (e0.bs b o e).1
  obtain ⟨p0, p1, p2, k, p3, p4, p5, p6, p7, p8, p9, p10, p11, p12, p13, hbody, hpos⟩ := T.body
  obtain ⟨a1, a2, hargs, ha1, ha2⟩ := T.args
  refine ks_codeAny_call_defAt (fd := PySem.W.ksFn "__init__" qual (defArgs st) (defBody st) (defScope st) .none kV doc pm an (.ref cda) ct cc) hr.depth (KX _ _ lk) rfl lim (PySem.W.codeRec_of KX hcd) rfl hb (fun x hx z => ?_) (fun x hx => ?_) (fun h1 hns hk => ?_) T.co T.gen T.kind
  · have := List.all_eq_true.mp T.n6 x hx
    rw [z] at this
    simp at this
  · simp at hx
    rcases hx with rfl | rfl
    · exact T.n1
    · exact T.n2
  let xe : Value → Shared → Prop := fun e s' => wpAny (model P w) (A.deeper (PySem.W.ksEnv qual (defScope st) s.heap.objs.size fI (.ref cda) cc)) (leaving (PySem.W.ksEnv qual (defScope st) s.heap.objs.size fI (.ref cda) cc) e) (fun _ s'' => CR (L2.CX P w) outer P w H s Q E (.error e) s'') (fun e' s'' => CR (L2.CX P w) outer P w H s Q E (.error e') s'') s'
  have I0 := inv_init (i := i) (u := tk) (tk := s.toks + 2) (qual := qual) (f := fI) (cd := .ref cda) (xe := xe) T hcell rfl hr.hd e0 hns hk
  have hno : PySem.W.findIn K (.ref C) "place" = some none := B.pl
  have st2 := pss_cons (ps_ost (X := cxI P w K mg base qual (defScope st) fI cc (.ref cda) A outer s H xe) (f := "place") (p' := p11) (pos := p13) (pe_var (pos := p10) (i := 0) rfl (.inl T.n1)) (pe_var (pos := p12) (i := 1) rfl (.inl T.n2))) pss_nil
  have go : _root_.PySem.wpAt (model P w) (A.deeper (PySem.W.ksEnv qual (defScope st) s.heap.objs.size fI (.ref cda) cc)) (.func (defBody st) (PySem.W.ksEnv qual (defScope st) s.heap.objs.size fI (.ref cda) cc))
      (execs (defBody st) (PySem.W.ksEnv qual (defScope st) s.heap.objs.size fI (.ref cda) cc)) (SP (cxI P w K mg base qual (defScope st) fI cc (.ref cda) A outer s H xe) [] { nx := fun _ H' => Q .non H', rt := Q }) xe { s with heap := h1, toks := s.toks + 2 } := by
    rw [hbody]
    refine ks_wpAt_execs_cons (init_row1 T B hpos hs ht hi ha I0 fun s' J => ?_)
    exact _root_.PySem.wpAt_of_wpAny (st2.run [] s' _ H _ J ⟨.int i, rfl, .ref a, rfl, a, C, rfl, B.o, hno, .inl ⟨ha, fun dx n ne => hq dx n ne⟩⟩)
  refine ks_wpAt_mono go (fun fl s' hs => ?_) fun e s' hs => hs
  have fin : ∀ {σ' : L2.St} {H' : Hp} {v : V} {u : Value}, Inv (cxI P w K mg base qual (defScope st) fI cc (.ref cda) A outer s H xe) [] σ' H' s' → RelV v u → Q v H' → CE outer P w H s Q u s' :=
    fun {σ' H' v u} J rv q => ⟨v, H', J.os, J.bare, J.base, J.hok, rv, q⟩
  cases fl with
  | ret u =>
    obtain ⟨v, σ', H', J, rv, q⟩ := hs
    exact fin J rv q
  | next =>
    obtain ⟨σ', H', J, q⟩ := hs
    exact fin (v := V.non) (u := Value.none) J rfl q
  | brk =>
    obtain ⟨_, _, _, q⟩ := hs
    exact False.elim q
  | cont =>
    obtain ⟨_, _, _, q⟩ := hs
    exact False.elim q
end
end Mp

set_option Elab.async false
set_option linter.all false
set_option maxRecDepth 100000
set_option maxHeartbeats 4000000
/-! enumerate over a tuple. -/
namespace Mp
open PySem PySem.Spec PyProof.Rows L2
theorem enum_of_tup (l : Addr) (items : Array Value) :
    Meets (Builtin.«enumerate.__new__» ⟨[.type "enumerate", .ref l], []⟩) (fun _ R s => s.heap.IsTuple l items ∧
      R (.ok (.ret (.ref (s.heap.push { cls := .type "tuple_iterator", data := .fields #[.ref l, .int 0 0] }).objs.size)))
        { s with heap := (s.heap.push { cls := .type "tuple_iterator", data := .fields #[.ref l, .int 0 0] }).push { cls := .type "enumerate", data := .fields #[.none, .bool false, .ref s.heap.objs.size, rawInt 0, .none, .none] } }) :=
  .of_wp fun prog w A R s h => by
    obtain ⟨hp, g, d, tk, os⟩ := s
    obtain ⟨hl, h⟩ := h
    have hs := sub_enumerate
    obtain ⟨ol, ho, hc, n, hd⟩ := id hl
    wp_walk using AutoSeq1.wpAny_loadPart' ho
    refine wpAny_stack_any fun st => wpAny_pure ?_
    split
    · rename_i c _ _ _ _ _
      cases (c == Value.type "enumerate")
      · wp_walk using AutoSeq1.wpAny_loadPart' ho, wpAny_pyIter_tuple hl
        exact ⟨_, rfl, h⟩
      · wp_walk using AutoSeq1.wpAny_loadPart' ho, wpAny_pyIter_tuple hl
        exact ⟨_, rfl, h⟩
    · wp_walk using AutoSeq1.wpAny_loadPart' ho, wpAny_pyIter_tuple hl
      exact ⟨_, rfl, h⟩
section
variable {prog : Program} {w : World} {A : Around} {E : Value → Shared → Prop} {s : Shared}
theorem call_enum_tup {l : Addr} {items : Array Value} {Q : Value → Shared → Prop} (hL : s.heap.IsTuple l items)
    (h : ∀ h', IsEnum h' (s.heap.objs.size + 1) s.heap.objs.size 0 .none → h'.IsTupleIter s.heap.objs.size l 0 → (∀ b o, s.heap.get? b = some o → h'.get? b = some o) → Q (.ref (s.heap.objs.size + 1)) { s with heap := h' }) :
    wpAny (model prog w) A (call (.type "enumerate") [.ref l]) Q E s := by
  have hz : (s.heap.push { cls := .type "tuple_iterator", data := .fields #[.ref l, .int 0 0] }).objs.size = s.heap.objs.size + 1 := Heap.size_push ..
  refine callType_new F.called_enumerate (by decide) (F.typeCall_enumerate_1 _) (F.newCall_enumerate_1 _) (fun obj => F.args_object_init_2 obj _) F.entry_enumerate_new (enum_of_tup l items) ⟨hL, ?_⟩
  show _ ∧ _
  rw [hz]
  have he : IsEnum ((s.heap.push { cls := .type "tuple_iterator", data := .fields #[.ref l, .int 0 0] }).push
      { cls := .type "enumerate", data := .fields #[.none, .bool false, .ref s.heap.objs.size, rawInt 0, .none, .none] }) (s.heap.objs.size + 1) s.heap.objs.size 0 .none := by
    have z := Heap.get?_push_size (s.heap.push { cls := .type "tuple_iterator", data := .fields #[.ref l, .int 0 0] }) (o := { cls := .type "enumerate", data := .fields #[.none, .bool false, .ref s.heap.objs.size, rawInt 0, .none, .none] }) rfl
    rw [hz] at z; exact z
  exact ⟨⟨_, he, rfl⟩, h _ he ⟨_, Heap.get?_push_of_some _ (Heap.get?_push_size _ rfl), rfl, rfl⟩ fun b o x => Heap.get?_push_of_some _ (Heap.get?_push_of_some _ x)⟩
theorem next_enum_tup_end {e it l : Addr} {i : Nat} {items : Array Value} {old : Value} {Q : Option Value → Shared → Prop} (hh : A.handled = none) (he : IsEnum s.heap e it i old) (hit : s.heap.IsTupleIter it l i) (hl : s.heap.IsTuple l items) (hx : items[i]? = none)
    (hQ : ∀ h', Heap.ExtBut it s.heap h' → Q none { s with heap := h' }) : wpAny (model prog w) A (pyNext (.ref e)) Q E s := by
  have hT : s.TypeIs (.ref e) "enumerate" := ⟨_, he, rfl⟩
  unfold pyNext
  refine wpAny_bind (wpAny_attempt (wpAny_callSpecial?_slot (name := Str.ofString "__next__") hT F.slot_enumerate_next (wpAny_call_entry F.slot_enumerate_next hT F.entry_enumerate_next ?_ (F.args_enumerate_next_1 _))))
  show wpAny _ _ (field (.ref e) 2 >>= _) _ _ _
  refine wpAny_bind (wpAny_field he rfl (x := .ref it) rfl (wpAny_bind (wpAny_nextOf_tuple_end hh hit hl hx fun h' x he' ⟨o, ho, hc⟩ => ?_)))
  exact wpAny_bind (wpAny_isInstance (T := "StopIteration") (b := true) ⟨o, ho, hc⟩ isSubtype_stop (wpAny_pure (hQ _ he')))
end
/-- the tuple at a, each item in a new pair -/
def IteT (K : PySem.W.Frag) (a : Addr) : L2.It :=
  ⟨fun i H => ∃ (xs : List V) (x : V), SqT K H a xs ∧ xs[i]? = some x, fun i H v H' => ∃ T x, v = .ref T ∧ H T = none ∧ H' = upd H T (.tup [.int (i : Nat), x]) ∧ ∀ xs, SqT K H a xs → xs[i]? = some x, fun i H => ∃ xs : List V, SqT K H a xs ∧ xs.length ≤ i⟩
theorem turn_enumT {P : Program} {w : World} {K : PySem.W.Frag} {elts : List Expr} {kk : Nat} {tpos : Pos} (a e it : Addr) (hia : it ≠ a) (hea : e ≠ a) :
    Turn P w K (.Tuple elts kk tpos) (IteT K a) [e, it] e (fun i h => (∃ old, IsEnum h e it ((i : Nat) : Int) old) ∧ h.IsTupleIter it a i ∧ e ≠ it) where
  mem := by simp
  obj := fun i h st b hb => by
    obtain ⟨⟨old, he⟩, ⟨o, ho, hc, hd⟩, _⟩ := st
    have e' : b = e ∨ b = it := by simpa using hb
    rcases e' with z | z
    · rw [z]; exact ⟨_, he, fun v q => nomatch q⟩
    · rw [z]; exact ⟨o, ho, fun v q => by rw [hd] at q; cases q⟩
  keep := fun i h h' st k => let ⟨⟨old, he⟩, hi, hne⟩ := st; ⟨⟨old, k e (by simp) _ he⟩, hi.at fun o q => k it (by simp) o q, hne⟩
  item := by
    intro X hP hw hK hc i pins s σ H E I hf st hg
    subst hP hw hK
    obtain ⟨⟨old, he⟩, hit, hne⟩ := st
    obtain ⟨xs, x, hq, hx⟩ := hg
    obtain ⟨its, rv, p, hz⟩ := I.tuple hq
    obtain ⟨u, hu, ru⟩ := rv.get hx
    have p : s.heap.IsTuple a its.toArray := p
    have hel : e < s.heap.objs.size := Heap.lt_size he
    have hil : it < s.heap.objs.size := by obtain ⟨_, q, _⟩ := hit; exact Heap.lt_size q
    have hlt : i < its.toArray.size := by
      have := (List.getElem?_eq_some_iff.mp hu).1
      simpa using this
    refine wpAny_pyNext_enum_itemD (Draws.tuple (prog := X.prog) (w := X.w) (A := X.A.in1) (I.ok.hd hc) it a (Ne.symm hia) its.toArray) he ⟨hit, p⟩ hlt hne (by simp [hne, hea]) fun y h' tk hy ho hst hT hsz hk => ?_
    have hy : its.toArray[i]? = some y := hy
    obtain rfl : y = u := by
      have : its.toArray[i]? = some u := by simpa using hu
      rw [this] at hy; exact (Option.some.inj hy).symm
    refine ⟨_, rfl, wpAny_letOwnedTupleGo_enum (s := { s with heap := h', toks := tk + 1 }) ho fun h'' he' sb => ?_⟩
    have hT2 : h''.get? s.heap.objs.size = some { cls := .type "tuple", data := .seq #[.int i tk, y] } := (sb.2 _ (Nat.ne_of_gt hel)).trans hT
    have new : ObjOk X.prog X.w (upd H s.heap.objs.size (.tup [.int (i : Nat), x])) h'' s.heap.objs.size (.tup [.int (i : Nat), x]) :=
      ⟨by show 2 ≤ sizeLine; decide, [.int i tk, y], .cons ⟨_, rfl⟩ (.cons ru .nil), ⟨_, hT2, rfl, _, rfl⟩⟩
    have I1 : Inv X pins σ (upd H s.heap.objs.size (.tup [.int (i : Nat), x])) { s with heap := h'', toks := tk + 1 } :=
      I.turnedNew (t' := tk + 1) (ch := [e, it]) (fun b ob hb q => (sb.2 b (fun z => hb (by simp [z]))).trans (hk b ob (fun z => hb (by simp [z])) (fun z => hb (by simp [z])) q)) hf (Nat.le_refl _) new
    refine ⟨.ref s.heap.objs.size, _, I1, rfl, ⟨_, x, rfl, I.hok.fresh (Nat.le_refl _), rfl, fun ys hy => by rw [I.tuple_inj hy hq]; exact hx⟩, ⟨⟨y, ?_⟩, hst.1.at fun o q => (sb.2 it (Ne.symm hne)).trans q, hne⟩, fun b hb => ?_⟩
    · have e1 : ((i + 1 : Nat) : Int) = (i : Int) + 1 := by omega
      rw [e1]; exact he'
    · have hb' : b < s.heap.objs.size := by
        have e' : b = e ∨ b = it := by simpa using hb
        rcases e' with z | z
        · rw [z]; exact hel
        · rw [z]; exact hil
      rw [upd_ne (Nat.ne_of_lt hb')]
      exact (hf b hb).1
  done := by
    intro X hP hw hK hc i pins s σ H E I hf st hg
    subst hP hw hK
    obtain ⟨⟨old, he⟩, hit, hne⟩ := st
    obtain ⟨xs, hq, hx⟩ := hg
    obtain ⟨its, rv, p, hz⟩ := I.tuple hq
    have p : s.heap.IsTuple a its.toArray := p
    obtain ⟨f0, f1, f2, f3, f4, f5⟩ := hf it (by simp)
    have hl := rv.length
    exact next_enum_tup_end (I.ok.hd hc) he hit p (by simp; omega) fun h' eb => ⟨rfl, I.turned (t' := s.toks) (fun b o hb q => eb b o hb q) f0 f1 f3 f4 f5⟩
  self := fun A i s Q E st h => let ⟨⟨_, he⟩, _⟩ := st; wpAny_pyIter_enum he h
def iEnumT (K : PySem.W.Frag) (ta : TA) : TI := fun σ H R => ta σ H fun vs H1 => ∃ a, vs = [.ref a] ∧ ((∃ xs, SqL K H1 a xs ∧ R (Ite K a) H1) ∨ ∃ xs, SqT K H1 a xs ∧ R (IteT K a) H1)
theorem pi_enumT {X : Cx} {e : Expr} {ta : TA} {p pos tpos : Pos} {elts : List Expr} {kk : Nat} (hg : Gl X "enumerate") (hm : X.mg "enumerate" = none) (ha : PA X [e] ta) (hs : starEach [e] X.env = [(false, eval e X.env)] := by rfl) :
    PI X (.Tuple elts kk tpos) (.Call (.Name "enumerate" p) [e] [] pos) (iEnumT X.K ta) := by
  refine ⟨fun pins s σ H R I h => ?_⟩
  refine Call_ (ld_blt I hg hm boot_enumerate (PyProof.Rows.callWith_type1 (thn (ha.run pos pins s σ H _ I h) fun us s1 ⟨vs, H1, I1, r1, q1⟩ => ?_) hs rfl))
  obtain ⟨a, ex, q⟩ := q1
  subst ex
  cases r1 with
  | cons r rr =>
    cases rr
    cases r
    have fp : ∀ b ∈ [s1.heap.objs.size + 1, s1.heap.objs.size], FpOk X pins H1 b := fun b hb => by
      have e' : b = s1.heap.objs.size + 1 ∨ b = s1.heap.objs.size := by simpa using hb
      have hle : s1.heap.objs.size ≤ b := by
        rcases e' with z | z
        · rw [z]; exact Nat.le_add_right _ _
        · rw [z]; exact Nat.le_refl _
      exact I1.fpOk hle (I1.hok.fresh hle)
    rcases q with ⟨xs, hq, q⟩ | ⟨xs, hq, q⟩
    · obtain ⟨its, rv, p', hz⟩ := I1.list hq
      refine call_enumerate_list p'.isList fun h' he hit hsz hk => wpAny_pyIter_enum he ?_
      have I2 : Inv X pins σ H1 { s1 with heap := h' } := I1.kept (t' := s1.toks) hk
      exact ⟨s1.heap.objs.size + 1, [s1.heap.objs.size + 1, s1.heap.objs.size], _, _, H1, rfl, I2, turn_enum a (s1.heap.objs.size + 1) s1.heap.objs.size, ⟨⟨.none, he⟩, hit, Nat.succ_ne_self _⟩, fp, q⟩
    · obtain ⟨its, rv, p', hz⟩ := I1.tuple hq
      have p' : s1.heap.IsTuple a its.toArray := p'
      have hlt : a < s1.heap.objs.size := by obtain ⟨o, ho, _⟩ := p'; exact Heap.lt_size ho
      refine call_enum_tup p' fun h' he hit hk => wpAny_pyIter_enum he ?_
      have I2 : Inv X pins σ H1 { s1 with heap := h' } := I1.kept (t' := s1.toks) hk
      exact ⟨s1.heap.objs.size + 1, [s1.heap.objs.size + 1, s1.heap.objs.size], _, _, H1, rfl, I2, turn_enumT a (s1.heap.objs.size + 1) s1.heap.objs.size (Nat.ne_of_gt hlt) (Nat.ne_of_gt (Nat.lt_succ_of_lt hlt)), ⟨⟨.none, he⟩, hit, Nat.succ_ne_self _⟩, fp, q⟩
end Mp

set_option Elab.async false
set_option linter.all false
set_option maxRecDepth 100000
/-! More operations over data: products, truth, items, slices, built-in functions. -/
namespace Mp
open PySem PySem.Spec PyProof.Rows L2

theorem Reps.flatten {K : PySem.W.Frag} {F : Hp} {A : List Addr} {vs : List V} {ds : List D} (h : Reps K F A vs ds) : ∀ k : Nat, Reps K F A (List.replicate k vs).flatten (List.replicate k ds).flatten
  | 0 => .nil
  | k + 1 => by
    rw [List.replicate_succ, List.replicate_succ, List.flatten_cons, List.flatten_cons]
    exact h.append (Reps.flatten h k)
section
variable {X : Cx} {CA : Str → Option Addr}
theorem mul_ok : ∃ r, OpR X (binaryOp .Mult) r ∧ Op2 X.K CA r mulD := by
  refine ⟨_, OpR.or op_mul (OpR.or op_rep op_repA), ?_⟩
  intro W σ H env obs x y a b d Q S rx ry e q
  unfold mulD at e
  split at e
  · split at e
    · rename_i h; cases e; cases rx; cases ry
      refine .inl ⟨_, _, rfl, rfl, ?_, q _ W H .refl S (.int _)⟩
      unfold mulOk at h
      rw [Bool.or_eq_true] at h
      rcases h with h | h
      · exact .inl (natAbs_lt (of_decide_eq_true h))
      · exact .inr (natAbs_lt (of_decide_eq_true h))
    · cases e
  · split at e
    · rename_i h; cases e; cases ry
      rw [Bool.and_eq_true] at h
      obtain ⟨p, vs, rfl, h1, r1⟩ := S.lst rx
      have h2 := of_decide_eq_true h.1
      exact .inr (.inl ⟨p, _, vs, rfl, rfl, h1, h2.1, h2.2, by rw [r1.length]; exact of_decide_eq_true h.2, GP.lst S q (r1.flatten _)⟩)
    · cases e
  · split at e
    · rename_i ds k h; cases e; cases ry
      rw [Bool.and_eq_true] at h
      obtain ⟨p, vs, rfl, h1, r1⟩ := S.tup rx
      have h2 := of_decide_eq_true h.1
      refine .inr (.inr ⟨p, _, vs, rfl, rfl, h1, h2.1, h2.2, by rw [r1.length]; exact of_decide_eq_true h.2, fun z => ?_, fun _ => GP.tup S q (r1.flatten _)⟩)
      rcases z with z | z
      · subst z; cases r1
        have e0 : (List.replicate k.toNat ([] : List D)).flatten = [] := by simp
        rw [e0] at q
        exact q _ W H .refl S rx
      · subst z
        have e0 : (List.replicate (1 : Int).toNat ds).flatten = ds := by simp
        rw [e0] at q
        exact q _ W H .refl S rx
    · cases e
  · cases e
theorem bin_ok : ∀ op : Operator, (∃ r, OpR X (binaryOp op) r ∧ Op2 X.K CA r (binD op))
  | .Add => add_ok
  | .Sub => sub_ok
  | .Mult => mul_ok
  | .FloorDiv => div_ok
  | .Mod => mod_ok
  | .Pow => pow_ok
  | .LShift => shl_ok
  | .MatMult => ⟨fun _ _ _ _ => False, fun _ _ _ _ _ _ _ _ _ _ _ _ h => h.elim, fun _ _ _ _ _ _ _ _ _ _ _ _ _ _ e => by cases e⟩
  | .Div => ⟨fun _ _ _ _ => False, fun _ _ _ _ _ _ _ _ _ _ _ _ h => h.elim, fun _ _ _ _ _ _ _ _ _ _ _ _ _ _ e => by cases e⟩
  | .RShift => ⟨fun _ _ _ _ => False, fun _ _ _ _ _ _ _ _ _ _ _ _ h => h.elim, fun _ _ _ _ _ _ _ _ _ _ _ _ _ _ e => by cases e⟩
  | .BitOr => ⟨fun _ _ _ _ => False, fun _ _ _ _ _ _ _ _ _ _ _ _ h => h.elim, fun _ _ _ _ _ _ _ _ _ _ _ _ _ _ e => by cases e⟩
  | .BitXor => ⟨fun _ _ _ _ => False, fun _ _ _ _ _ _ _ _ _ _ _ _ h => h.elim, fun _ _ _ _ _ _ _ _ _ _ _ _ _ _ e => by cases e⟩
  | .BitAnd => ⟨fun _ _ _ _ => False, fun _ _ _ _ _ _ _ _ _ _ _ _ h => h.elim, fun _ _ _ _ _ _ _ _ _ _ _ _ _ _ e => by cases e⟩
/-- truth -/
theorem Reps.empty {K : PySem.W.Frag} {F : Hp} {A : List Addr} {vs : List V} {ds : List D} (h : Reps K F A vs ds) : ds.isEmpty = vs.isEmpty := by
  cases h <;> rfl
theorem tru_of {K : PySem.W.Frag} {W : Wd} {σ : L2.St} {H : Hp} {env : Env} {obs : Obs} {v : V} {d : D} {k : Bool} (S : SRel K CA W σ H env obs) (r : W.rep K v d) (e : truD d = some k) : TruV K v H k := by
  unfold truD at e
  split at e
  · cases e; cases r; rfl
  · cases e; cases r; rfl
  · cases e; cases r; rfl
  · split at e
    · rename_i h; cases e; cases r; exact ⟨h, rfl⟩
    · cases e
  · cases e
    obtain ⟨p, vs, rfl, h1, r1⟩ := S.tup r
    exact .inr (.inl ⟨vs, h1, by rw [r1.empty]⟩)
  · cases e
    obtain ⟨p, vs, rfl, h1, r1⟩ := S.lst r
    exact .inl ⟨vs, SqL.of h1, by rw [r1.empty]⟩
  · cases e
    cases r with
    | dic h1 h2 h3 =>
      refine .inr (.inr ⟨_, S.fh _ _ h1, ?_⟩)
      rename_i ks p vs
      cases vs with
      | nil => cases ks with
        | nil => rfl
        | cons _ _ => simp at h2
      | cons _ _ => cases ks with
        | nil => simp at h2
        | cons _ _ => rfl
  · cases e
theorem Reps.atI {K : PySem.W.Frag} {F : Hp} {A : List Addr} {vs : List V} {ds : List D} (h : Reps K F A vs ds) {i : Int} {d : D} (e : L2.atI ds i = some d) : ∃ v, L2.atI vs i = some v ∧ Rep K F A v d := by
  unfold L2.atI at e ⊢
  rw [h.length]
  cases q : ixN ds.length i with
  | none => rw [q] at e; simp at e
  | some j =>
    rw [q] at e
    obtain ⟨v, a, b⟩ := h.get (i := j) e
    exact ⟨v, a, b⟩
theorem ix_ok : ∃ r, IxR X r ∧ Op2 X.K CA r ixD := by
  refine ⟨_, ix_seq, ?_⟩
  intro W σ H env obs x y a b d Q S rx ry e q
  unfold ixD at e
  split at e
  · cases ry
    obtain ⟨p, vs, rfl, h1, r1⟩ := S.lst rx
    obtain ⟨v, a1, a2⟩ := r1.atI e
    exact .inl ⟨p, vs, _, v, rfl, rfl, SqL.of h1, a1, q _ W H .refl S a2⟩
  · cases ry
    obtain ⟨p, vs, rfl, h1, r1⟩ := S.tup rx
    obtain ⟨v, a1, a2⟩ := r1.atI e
    exact .inr (.inl ⟨p, vs, _, v, rfl, rfl, h1, a1, q _ W H .refl S a2⟩)
  · split at e
    · rename_i h
      rw [Option.map_eq_some_iff] at e
      obtain ⟨c, e1, rfl⟩ := e
      cases rx; cases ry
      exact .inr (.inr ⟨_, _, c, rfl, rfl, h, e1, q _ W H .refl S (.str _)⟩)
    · cases e
  · cases e
/-- slices -/
theorem Reps.cut {K : PySem.W.Frag} {F : Hp} {A : List Addr} {vs : List V} {ds : List D} (h : Reps K F A vs ds) (lo hi : Option Int) : Reps K F A (cutV vs lo hi) (cutD ds lo hi) := by
  unfold cutV cutD
  rw [h.length]
  exact (h.drop _).take _
theorem cut_whole {ds : List D} {lo hi : Option Int} (h : HT.sIx ds.length 0 lo = 0 ∧ HT.sIx ds.length ds.length hi = ds.length) : cutD ds lo hi = ds := by
  unfold cutD
  rw [h.1, h.2]
  simp
theorem sl_ok : ∃ r, L2.SlR X r ∧ ∀ (W : Wd) (σ : L2.St) (H : Hp) (env : Env) (obs : Obs) (x : V) (a d : D) (lo hi : Option Int) (Q : V → Hp → Prop), SRel X.K CA W σ H env obs → W.rep X.K x a → slD a lo hi = some d →
    (∀ v W' H', W.leE W' H H' → SRel X.K CA W' σ H' env obs → W'.rep X.K v d → Q v H') → r x lo hi H Q := by
  refine ⟨_, L2.SlR.or sl_list (L2.SlR.or sl_tupA C8.sl_txt), ?_⟩
  intro W σ H env obs x a d lo hi Q S rx e q
  unfold slD at e
  split at e
  · cases e
    obtain ⟨p, vs, rfl, h1, r1⟩ := S.lst rx
    exact .inl ⟨p, vs, rfl, SqL.of h1, GP.lst S q (r1.cut _ _)⟩
  · cases e
    rename_i ds
    obtain ⟨p, vs, rfl, h1, r1⟩ := S.tup rx
    refine .inr (.inl ⟨p, vs, rfl, h1, fun z => ?_, fun _ => GP.tup S q (r1.cut _ _)⟩)
    rw [cut_whole (by rw [← r1.length]; exact z)] at q
    exact q _ W H .refl S rx
  · cases e
    cases rx with
    | loc h1 => exact .inl ⟨_, _, rfl, SqL.mono h1 S.fh, GP.lst S q ((Reps.ints _).cut _ _)⟩
  · split at e
    · rename_i h; cases e; cases rx
      exact .inr (.inr ⟨_, rfl, h, q _ W H .refl S (.str _)⟩)
    · cases e
  · cases e
/-! ### built-in functions -/
theorem len_ok : ∃ r, CallR X (.builtin "len") r ∧ Op1 X.K CA r (biD "len") := by
  refine ⟨_, CallR.or call_len call_lenD, ?_⟩
  intro W σ H env obs xs as d Q S rs e q
  cases rs with
  | nil => simp [biD] at e
  | cons r1 r2 =>
    cases r2 with
    | cons _ r3 => cases r3 <;> simp [biD] at e
    | nil =>
      simp only [biD, Option.map_eq_some_iff] at e
      obtain ⟨n, e, rfl⟩ := e
      unfold lenD at e
      split at e
      · split at e
        · rename_i h; cases e; cases r1
          exact .inl ⟨_, _, rfl, ⟨h, rfl⟩, q _ W H .refl S (.int _)⟩
        · cases e
      · cases e
        obtain ⟨p, vs, rfl, h1, r1⟩ := S.tup r1
        exact .inl ⟨_, vs.length, rfl, .inr ⟨vs, h1, rfl⟩, by rw [r1.length]; exact q _ W H .refl S (.int _)⟩
      · cases e
        obtain ⟨p, vs, rfl, h1, r1⟩ := S.lst r1
        exact .inl ⟨_, vs.length, rfl, .inl ⟨vs, SqL.of h1, rfl⟩, by rw [r1.length]; exact q _ W H .refl S (.int _)⟩
      · cases e
        cases r1 with
        | dic h1 h2 h3 =>
          rename_i ks p vs
          have hl : vs.length = ks.length := by
            have := congrArg List.length h2
            simpa using this
          exact .inr ⟨p, vs, rfl, S.fh _ _ h1, by rw [hl]; exact q _ W H .refl S (.int _)⟩
      · cases e
        cases r1 with
        | loc h1 =>
          rename_i ns p
          exact .inl ⟨_, ns.length, rfl, .inl ⟨_, SqL.mono h1 S.fh, by rw [List.length_map]⟩, q _ W H .refl S (.int _)⟩
      · cases e
theorem abs_ok : ∃ r, CallR X (.builtin "abs") r ∧ Op1 X.K CA r (biD "abs") := by
  refine ⟨_, call_abs, ?_⟩
  intro W σ H env obs xs as d Q S rs e q
  cases rs with
  | nil => simp [biD] at e
  | cons r1 r2 =>
    cases r2 with
    | cons _ r3 => cases r3 <;> simp [biD] at e
    | nil =>
      simp only [biD] at e
      split at e
      · cases e; cases r1
        exact ⟨_, rfl, q _ W H .refl S (.int _)⟩
      · cases e
theorem sum_ok (hc : X.calm = true) : ∃ r, CallR X (.builtin "sum") r ∧ Op1 X.K CA r (biD "sum") := by
  refine ⟨_, cr_sum hc, ?_⟩
  intro W σ H env obs xs as d Q S rs e q
  cases rs with
  | nil => simp [biD] at e
  | cons r1 r2 =>
    cases r2 with
    | cons _ r3 => cases r3 <;> simp [biD] at e
    | nil =>
      simp only [biD] at e
      split at e
      · rw [Option.map_eq_some_iff] at e
        obtain ⟨ns, e, rfl⟩ := e
        cases intsD_some e
        obtain ⟨p, vs, rfl, h1, r1⟩ := S.lst r1
        rw [r1.to_ints] at h1
        exact ⟨p, ns, rfl, SqL.of h1, q _ W H .refl S (.int _)⟩
      · cases e
theorem all_ok (hc : X.calm = true) : ∃ r, CallR X (.builtin "all") r ∧ Op1 X.K CA r (biD "all") := by
  refine ⟨_, cr_all hc, ?_⟩
  intro W σ H env obs xs as d Q S rs e q
  cases rs with
  | nil => simp [biD] at e
  | cons r1 r2 =>
    cases r2 with
    | cons _ r3 => cases r3 <;> simp [biD] at e
    | nil =>
      simp only [biD] at e
      split at e
      · rw [Option.map_eq_some_iff] at e
        obtain ⟨ns, e, rfl⟩ := e
        cases blsD_some e
        obtain ⟨p, vs, rfl, h1, r1⟩ := S.lst r1
        rw [r1.to_bls] at h1
        exact ⟨p, ns, rfl, SqL.of h1, q _ W H .refl S (.bl _)⟩
      · cases e
theorem any_ok (hc : X.calm = true) : ∃ r, CallR X (.builtin "any") r ∧ Op1 X.K CA r (biD "any") := by
  refine ⟨_, cr_any hc, ?_⟩
  intro W σ H env obs xs as d Q S rs e q
  cases rs with
  | nil => simp [biD] at e
  | cons r1 r2 =>
    cases r2 with
    | cons _ r3 => cases r3 <;> simp [biD] at e
    | nil =>
      simp only [biD] at e
      split at e
      · rw [Option.map_eq_some_iff] at e
        obtain ⟨ns, e, rfl⟩ := e
        cases blsD_some e
        obtain ⟨p, vs, rfl, h1, r1⟩ := S.lst r1
        rw [r1.to_bls] at h1
        exact ⟨p, ns, rfl, SqL.of h1, q _ W H .refl S (.bl _)⟩
      · cases e
theorem maxI_spec : ∀ (xs : List Int) (x m : Int), m ∈ x :: xs → (∀ y, y ∈ x :: xs → y ≤ m) → m = maxI x xs
  | [], x, m, h, _ => by simpa [maxI] using h
  | y :: ys, x, m, h, hm => by
    unfold maxI
    refine maxI_spec ys _ m ?_ ?_
    · have hx := hm x (by simp)
      have hy := hm y (by simp)
      by_cases c : y > x
      · rw [if_pos c]
        rcases List.mem_cons.mp h with e | e
        · omega
        · exact e
      · rw [if_neg c]
        rcases List.mem_cons.mp h with e | e
        · rw [e]; exact List.mem_cons_self
        · rcases List.mem_cons.mp e with e | e
          · have : m = x := by omega
            rw [this]; exact List.mem_cons_self
          · exact List.mem_cons_of_mem _ e
    · intro z hz
      rcases List.mem_cons.mp hz with e | e
      · subst e
        split
        · exact hm y (by simp)
        · exact hm x (by simp)
      · exact hm z (by simp [e])
theorem minI_spec : ∀ (xs : List Int) (x m : Int), m ∈ x :: xs → (∀ y, y ∈ x :: xs → m ≤ y) → m = minI x xs
  | [], x, m, h, _ => by simpa [minI] using h
  | y :: ys, x, m, h, hm => by
    unfold minI
    refine minI_spec ys _ m ?_ ?_
    · have hx := hm x (by simp)
      have hy := hm y (by simp)
      by_cases c : y < x
      · rw [if_pos c]
        rcases List.mem_cons.mp h with e | e
        · omega
        · exact e
      · rw [if_neg c]
        rcases List.mem_cons.mp h with e | e
        · rw [e]; exact List.mem_cons_self
        · rcases List.mem_cons.mp e with e | e
          · have : m = x := by omega
            rw [this]; exact List.mem_cons_self
          · exact List.mem_cons_of_mem _ e
    · intro z hz
      rcases List.mem_cons.mp hz with e | e
      · subst e
        split
        · exact hm y (by simp)
        · exact hm x (by simp)
      · exact hm z (by simp [e])
theorem max_ok (hc : X.calm = true) : ∃ r, CallR X (.builtin "max") r ∧ Op1 X.K CA r (biD "max") := by
  refine ⟨_, CallR.or (cr_max hc) (CallR.or (call_max2 hc) (cr_maxT hc)), ?_⟩
  intro W σ H env obs xs as d Q S rs e q
  cases rs with
  | nil => simp [biD] at e
  | cons r1 r2 =>
    cases r2 with
    | cons r2 r3 =>
      cases r3 with
      | cons _ r4 => cases r4 <;> simp [biD] at e
      | nil =>
        simp only [biD] at e
        split at e
        · cases e; cases r1; cases r2
          exact .inr (.inl ⟨_, _, rfl, q _ W H .refl S (.int _)⟩)
        · cases e
    | nil =>
      simp only [biD] at e
      split at e
      · split at e
        · rename_i y ys e1; cases e
          cases intsD_some e1
          obtain ⟨p, vs, rfl, h1, r1⟩ := S.lst r1
          rw [r1.to_ints] at h1
          refine .inl ⟨p, y :: ys, rfl, SqL.of h1, by simp, fun m hm hle => ?_⟩
          rw [maxI_spec ys y m hm hle]
          exact q _ W H .refl S (.int _)
        · cases e
      · split at e
        · rename_i y ys e1; cases e
          cases intsD_some e1
          obtain ⟨p, vs, rfl, h1, r1⟩ := S.tup r1
          rw [r1.to_ints] at h1
          refine .inr (.inr ⟨p, y :: ys, rfl, h1, by simp, fun m hm hle => ?_⟩)
          rw [maxI_spec ys y m hm hle]
          exact q _ W H .refl S (.int _)
        · cases e
      · cases e
theorem min_ok (hc : X.calm = true) : ∃ r, CallR X (.builtin "min") r ∧ Op1 X.K CA r (biD "min") := by
  refine ⟨_, CallR.or (cr_min hc) (CallR.or (call_min2 hc) (cr_minT hc)), ?_⟩
  intro W σ H env obs xs as d Q S rs e q
  cases rs with
  | nil => simp [biD] at e
  | cons r1 r2 =>
    cases r2 with
    | cons r2 r3 =>
      cases r3 with
      | cons _ r4 => cases r4 <;> simp [biD] at e
      | nil =>
        simp only [biD] at e
        split at e
        · cases e; cases r1; cases r2
          exact .inr (.inl ⟨_, _, rfl, q _ W H .refl S (.int _)⟩)
        · cases e
    | nil =>
      simp only [biD] at e
      split at e
      · split at e
        · rename_i y ys e1; cases e
          cases intsD_some e1
          obtain ⟨p, vs, rfl, h1, r1⟩ := S.lst r1
          rw [r1.to_ints] at h1
          refine .inl ⟨p, y :: ys, rfl, SqL.of h1, by simp, fun m hm hle => ?_⟩
          rw [minI_spec ys y m hm hle]
          exact q _ W H .refl S (.int _)
        · cases e
      · split at e
        · rename_i y ys e1; cases e
          cases intsD_some e1
          obtain ⟨p, vs, rfl, h1, r1⟩ := S.tup r1
          rw [r1.to_ints] at h1
          refine .inr (.inr ⟨p, y :: ys, rfl, h1, by simp, fun m hm hle => ?_⟩)
          rw [minI_spec ys y m hm hle]
          exact q _ W H .refl S (.int _)
        · cases e
      · cases e
theorem insI_perm (x : Int) : ∀ l : List Int, (insI x l).Perm (x :: l)
  | [] => .refl _
  | y :: ys => by
    unfold insI
    split
    · exact .refl _
    · exact ((insI_perm x ys).cons y).trans (.swap x y ys)
theorem sortI_perm : ∀ l : List Int, (sortI l).Perm l
  | [] => .refl _
  | x :: xs => (insI_perm x _).trans ((sortI_perm xs).cons x)
theorem insI_sorted (x : Int) : ∀ {l : List Int}, l.Pairwise (· ≤ ·) → (insI x l).Pairwise (· ≤ ·)
  | [], _ => by simp [insI]
  | y :: ys, h => by
    unfold insI
    rw [List.pairwise_cons] at h
    split
    · rename_i hx
      refine List.pairwise_cons.mpr ⟨fun z hz => ?_, List.pairwise_cons.mpr h⟩
      rcases List.mem_cons.mp hz with rfl | hz
      · exact hx
      · exact Int.le_trans hx (h.1 z hz)
    · rename_i hx
      refine List.pairwise_cons.mpr ⟨fun z hz => ?_, insI_sorted x h.2⟩
      rcases List.mem_cons.mp ((insI_perm x ys).mem_iff.mp hz) with rfl | hz
      · omega
      · exact h.1 z hz
theorem sortI_sorted : ∀ l : List Int, (sortI l).Pairwise (· ≤ ·)
  | [] => .nil
  | x :: xs => insI_sorted x (sortI_sorted xs)
theorem sort_eq {a b : List Int} (p : a.Perm b) (ha : a.Pairwise (· ≤ ·)) (hb : b.Pairwise (· ≤ ·)) : a = b :=
  p.eq_of_pairwise (fun x y _ _ h1 h2 => Int.le_antisymm h1 h2) ha hb
theorem sorted_ok : ∃ r, CallR X (.builtin "sorted") r ∧ Op1 X.K CA r (biD "sorted") := by
  refine ⟨_, cr_sortedI, ?_⟩
  intro W σ H env obs xs as d Q S rs e q
  cases rs with
  | nil => simp [biD] at e
  | cons r1 r2 =>
    cases r2 with
    | cons _ r3 => cases r3 <;> simp [biD] at e
    | nil =>
      simp only [biD] at e
      split at e
      · rw [Option.map_eq_some_iff] at e
        obtain ⟨ns, e, rfl⟩ := e
        cases intsD_some e
        obtain ⟨p, vs, rfl, h1, r1⟩ := S.lst r1
        rw [r1.to_ints] at h1
        refine ⟨p, ns, rfl, SqL.of h1, fun ms w hp hs hw => ?_⟩
        have e2 : ms = sortI ns := sort_eq (hp.trans (sortI_perm ns).symm) hs (sortI_sorted ns)
        subst e2
        exact GP.lst S q (Reps.ints _) w hw
      · cases e
theorem inuI_mem (x : Int) : ∀ (l : List Int) (k : Int), k ∈ inuI x l ↔ k = x ∨ k ∈ l
  | [], k => by simp [inuI]
  | y :: ys, k => by
    unfold inuI
    split
    · simp
    · split
      · rename_i h; subst h; simp
      · simp only [List.mem_cons, inuI_mem x ys k]
        constructor
        · rintro (h | h | h) <;> simp [h]
        · rintro (h | h | h) <;> simp [h]
theorem ssetI_mem : ∀ (l : List Int) (k : Int), k ∈ ssetI l ↔ k ∈ l
  | [], k => by simp [ssetI]
  | x :: xs, k => by unfold ssetI; rw [inuI_mem, ssetI_mem xs k, List.mem_cons]
theorem inuI_sorted (x : Int) : ∀ {l : List Int}, l.Pairwise (· < ·) → (inuI x l).Pairwise (· < ·)
  | [], _ => by simp [inuI]
  | y :: ys, h => by
    unfold inuI
    have h' := List.pairwise_cons.mp h
    split
    · rename_i hx
      refine List.pairwise_cons.mpr ⟨fun z hz => ?_, h⟩
      rcases List.mem_cons.mp hz with rfl | hz
      · exact hx
      · exact Int.lt_trans hx (h'.1 z hz)
    · split
      · exact h
      · refine List.pairwise_cons.mpr ⟨fun z hz => ?_, inuI_sorted x h'.2⟩
        rcases (inuI_mem x ys z).mp hz with rfl | hz
        · omega
        · exact h'.1 z hz
theorem ssetI_sorted : ∀ l : List Int, (ssetI l).Pairwise (· < ·)
  | [] => .nil
  | x :: xs => inuI_sorted x (ssetI_sorted xs)
theorem sset_eq {a ns : List Int} (ha : a.Pairwise (· < ·)) (h : ∀ k, k ∈ a ↔ k ∈ ns) : a = ssetI ns := by
  have n1 : a.Nodup := ha.imp fun h => Int.ne_of_lt h
  have n2 : (ssetI ns).Nodup := (ssetI_sorted ns).imp fun h => Int.ne_of_lt h
  have p : a.Perm (ssetI ns) := (List.perm_ext_iff_of_nodup n1 n2).mpr fun k => by rw [h k, ssetI_mem]
  exact p.eq_of_pairwise (fun x y _ _ h1 h2 => absurd h1 (by omega)) ha (ssetI_sorted ns)
theorem int_ok : ∃ r, CallR X (.type "int") r ∧ Op1 X.K CA r (biD "int") := by
  refine ⟨_, call_int1, ?_⟩
  intro W σ H env obs xs as d Q S rs e q
  cases rs with
  | nil => simp [biD] at e
  | cons r1 r2 =>
    cases r2 with
    | cons _ r3 => cases r3 <;> simp [biD] at e
    | nil =>
      simp only [biD] at e
      split at e
      · cases e; cases r1
        exact .inl ⟨_, rfl, q _ W H .refl S (.int _)⟩
      · cases e; cases r1
        exact .inr ⟨_, rfl, q _ W H .refl S (.int _)⟩
      · cases e
theorem str_ok : ∃ r, CallR X (.type "str") r ∧ Op1 X.K CA r (biD "str") := by
  refine ⟨_, call_str_int, ?_⟩
  intro W σ H env obs xs as d Q S rs e q
  cases rs with
  | nil => simp [biD] at e
  | cons r1 r2 =>
    cases r2 with
    | cons _ r3 => cases r3 <;> simp [biD] at e
    | nil =>
      simp only [biD] at e
      split at e
      · split at e
        · rename_i h; cases e; cases r1
          exact ⟨_, rfl, h, q _ W H .refl S (.str _)⟩
        · cases e
      · cases e
theorem tuple_ok : ∃ r, CallR X (.type "tuple") r ∧ Op1 X.K CA r (biD "tuple") := by
  refine ⟨_, call_tuple_of, ?_⟩
  intro W σ H env obs xs as d Q S rs e q
  cases rs with
  | nil => simp [biD] at e
  | cons r1 r2 =>
    cases r2 with
    | cons _ r3 => cases r3 <;> simp [biD] at e
    | nil =>
      simp only [biD] at e
      split at e
      · cases e
        obtain ⟨p, vs, rfl, h1, r1⟩ := S.lst r1
        exact ⟨p, vs, rfl, .inl ⟨SqL.of h1, GP.tup S q r1⟩⟩
      · cases e
        obtain ⟨p, vs, e1, h1, r2⟩ := S.tup r1
        subst e1
        exact ⟨p, vs, rfl, .inr ⟨h1, q _ W H .refl S r1⟩⟩
      · cases e
theorem list_ok : ∃ r, CallR X (.type "list") r ∧ Op1 X.K CA r (biD "list") := by
  refine ⟨_, call_list_of, ?_⟩
  intro W σ H env obs xs as d Q S rs e q
  cases rs with
  | nil => simp [biD] at e
  | cons r1 r2 =>
    cases r2 with
    | cons _ r3 => cases r3 <;> simp [biD] at e
    | nil =>
      simp only [biD] at e
      split at e
      · cases e
        obtain ⟨p, vs, rfl, h1, r1⟩ := S.lst r1
        exact ⟨p, vs, rfl, .inl (SqL.of h1), GP.lst S q r1⟩
      · cases e
        obtain ⟨p, vs, rfl, h1, r1⟩ := S.tup r1
        exact ⟨p, vs, rfl, .inr h1, GP.lst S q r1⟩
      · cases e
/-- isinstance with one built-in class of int, bool, str, tuple, list -/
def isiTs : List String := ["int", "bool", "str", "tuple", "list"]
theorem isi_ok {t : String} (ht : t ∈ isiTs) : ∃ r, CallR X (.builtin "isinstance") r ∧ ∀ (W : Wd) (σ : L2.St) (H : Hp) (env : Env) (obs : Obs) (x : V) (a : D) (k : Bool) (Q : V → Hp → Prop), SRel X.K CA W σ H env obs → W.rep X.K x a → isiD t a = some k → Q (.bl k) H → r [x, .ty t] H Q := by
  refine ⟨_, call_isi, ?_⟩
  intro W σ H env obs x a k Q S rx e q
  have hk : ∀ s ∈ (["NoneType", "bool", "int", "str", "tuple", "list"] : List String), ∀ t ∈ isiTs, (kitB s t).isSome = true := by decide +kernel
  have go : ∀ (s : String), s ∈ (["NoneType", "bool", "int", "str", "tuple", "list"] : List String) → TyX X.K H x (.type s) → (∀ b, kitB s t = some b → b = k) → rIsi X.K [x, .ty t] H Q := fun s hs ty hb => by
    cases z : kitB s t with
    | none => have := hk s hs t ht; rw [z] at this; cases this
    | some b =>
      have := hb b z; subst this
      exact ⟨x, .ty t, .type s, .type t, b, rfl, .ty t, ty, kit_ty z, q⟩
  cases rx with
  | non =>
    refine go "NoneType" (by decide) (.base .non) fun b z => ?_
    simp only [isiD, Option.some.injEq] at e; subst e
    clear q hk go
    revert b; revert ht; revert t; decide +kernel
  | bl c =>
    refine go "bool" (by decide) (.base (.bl c)) fun b z => ?_
    simp only [isiD, Option.some.injEq] at e; subst e
    clear q hk go
    revert b; revert ht; revert t; decide +kernel
  | int c =>
    refine go "int" (by decide) (.base (.int c)) fun b z => ?_
    simp only [isiD, Option.some.injEq] at e; subst e
    clear q hk go
    revert b; revert ht; revert t; decide +kernel
  | str c =>
    refine go "str" (by decide) (.base (.str c)) fun b z => ?_
    simp only [isiD, Option.some.injEq] at e; subst e
    clear q hk go
    revert b; revert ht; revert t; decide +kernel
  | ty n => simp [isiD] at e
  | tup h r =>
    refine go "tuple" (by decide) ?_ fun b z => ?_
    · rcases h with (h | ⟨o, h⟩) | ⟨o, its, n, hk, hc, _⟩
      · exact .base (.tup (S.fh _ _ h))
      · exact .fTuple (S.fh _ _ h)
      · exact .kTuple hk hc
    · simp only [isiD, Option.some.injEq] at e; subst e
      clear q hk go
      revert b; revert ht; revert t; decide +kernel
  | lst h r =>
    refine go "list" (by decide) (.base (.lst (S.fh _ _ h))) fun b z => ?_
    simp only [isiD, Option.some.injEq] at e; subst e
    clear q hk go
    revert b; revert ht; revert t; decide +kernel
  | loc _ => simp [isiD] at e
  | dic _ _ _ => simp [isiD] at e
  | obj _ => simp [isiD] at e
end
end Mp

set_option Elab.async false
set_option linter.all false
set_option maxRecDepth 100000
/-! Which terms of the model the small language's terms stand for; the parts of a proof that they mean the same. -/
namespace Mp
open PySem PySem.Spec PyProof.Rows L2

/-! ### which terms -/
def visB (sc : Scope) (x : Str) : Bool := match sc.names.lookup x with | some .local => true | some .cell => true | some .free => true | _ => false
def locB (sc : Scope) (x : Str) : Bool := match sc.names.lookup x with | some .local => true | some .cell => true | _ => false
def glB (sc : Scope) (x : Str) : Bool := match sc.names.lookup x with | some .globalImplicit => true | _ => false
def dbg (x : Str) : Bool := x == ("__debug__" : Str)
def isStar : Expr → Bool
  | .Starred _ _ => true | _ => false
def isSlice : Expr → Bool
  | .Slice _ _ _ _ => true | _ => false
def isSet : Expr → Bool
  | .Set _ _ _ => true | _ => false
def isCompr : Expr → Bool
  | .ListComp _ _ _ _ => true | .SetComp _ _ _ _ => true | .DictComp _ _ _ _ _ => true | _ => false
def isCallE : Expr → Bool
  | .Call _ _ _ _ => true | _ => false
def biB : List String := ["len", "abs", "sum", "all", "any", "max", "min", "sorted"]
/-- a shared list's methods -/
def oMs : List String := ["append", "extend", "pop"]
def biT : List String := ["int", "str", "tuple", "list"]
/-- the built-in class's methods that are read -/
def mthOk (T m : String) : Bool := T == "dict" && m == "get"
def chkNm1 (sc : Scope) (N : List Str) (own : List Nat) (i : Nat) : Expr → Bool
  | .Name x _ => decide (N[i]? = some x) && locB sc x && own.contains i
  | _ => false
def chkNm2 (sc : Scope) (N : List Str) (own : List Nat) : List Nat → List Expr → Bool
  | [], [] => true
  | i :: is, e :: es => chkNm1 sc N own i e && chkNm2 sc N own is es
  | _, _ => false
def chkT1 (sc : Scope) (N : List Str) (own : List Nat) : Nat ⊕ List Nat → Expr → Bool
  | .inl i, e => chkNm1 sc N own i e
  | .inr ts, .Tuple es _ _ => chkNm2 sc N own ts es
  | _, _ => false
def chkTt (sc : Scope) (N : List Str) (own : List Nat) : List (Nat ⊕ List Nat) → List Expr → Bool
  | [], [] => true
  | i :: is, e :: es => chkT1 sc N own i e && chkTt sc N own is es
  | _, _ => false
def chkTg (sc : Scope) (N : List Str) (own : List Nat) : Tg → Expr → Bool
  | .nm i, e => chkNm1 sc N own i e
  | .tp ts, .Tuple es _ _ => chkNm2 sc N own ts es
  | .tt ts, .Tuple es _ _ => chkTt sc N own ts es
  | _, _ => false
def isRevSl : Expr → Bool
  | .Slice none none (some (.UnaryOp .USub (.Constant (.int i) _ _) _)) _ => i == 1
  | _ => false
theorem isRevSl_ok {e : Expr} (h : isRevSl e = true) : ∃ k p1 p2 p3, e = .Slice none none (some (.UnaryOp .USub (.Constant (.int 1) k p1) p2)) p3 := by
  unfold isRevSl at h
  split at h
  · have := eq_of_beq h
    subst this
    exact ⟨_, _, _, _, rfl⟩
  · cases h
def baseB : Expr → Bool
  | .Name _ _ => true | .Subscript _ _ _ => true | .Attribute _ _ _ => true | _ => false
theorem base_ok {e : Expr} {m : Str} {env : PySem.Env} {r : Sem Value} (h : baseB e = true) : attributeBase e m env r = r := by
  cases e <;> first | rfl | (simp [baseB] at h)
section
variable (fs bs : List Str) (N : List Str)
mutual
def chkE : Scope → E → Expr → Bool
  | _, .lit .non, .Constant .none _ _ => true
  | _, .lit (.bl b), .Constant (.bool c) _ _ => b == c
  | _, .lit (.int b), .Constant (.int c) _ _ => b == c
  | _, .lit (.str b), .Constant (.str c) _ _ => b == c
  | sc, .var i, .Name x _ => decide (N[i]? = some x) && visB sc x && !dbg x && !(x == ("__classdict__" : Str))
  | sc, .glob y, .Name x _ => y == x && glB sc x && !dbg x
  | sc, .bin op a b, .BinOp a' op' b' _ => decide (op = op') && chkE sc a a' && chkE sc b b'
  | sc, .cmp op a b, .Compare a' ops bs' _ => match ops, bs' with
    | [op'], [b'] => decide (op = op') && chkE sc a a' && chkE sc b b' && !isSet b'
    | _, _ => false
  | sc, .chn o1 o2 a b c, .Compare a' ops bs' _ => match ops, bs' with
    | [o1', o2'], [b', c'] => decide (o1 = o1') && decide (o2 = o2') && chkE sc a a' && chkE sc b b' && chkE sc c c' && !isSet c'
    | _, _ => false
  | sc, .not a, .UnaryOp .Not a' _ => chkE sc a a'
  | sc, .neg a, .UnaryOp .USub a' _ => chkE sc a a'
  | sc, .con es, .BoolOp .And es' _ => chkEs sc es es'
  | sc, .dis es, .BoolOp .Or es' _ => chkEs sc es es'
  | sc, .ife c a b, .IfExp c' a' b' _ => chkE sc c c' && chkE sc a a' && chkE sc b b'
  | sc, .tup es, .Tuple es' _ _ => chkEs sc es es'
  | sc, .lst es, .List es' _ => chkEs sc es es'
  | sc, .ix a b, .Subscript a' b' _ => chkE sc a a' && chkE sc b b' && !isSlice b'
  | sc, .sl a lo hi, .Subscript a' (.Slice lo' hi' none _) _ => chkE sc a a' && chkO sc lo lo' && chkO sc hi hi'
  | sc, .rev a, .Subscript a' b' _ => isRevSl b' && chkE sc a a'
  | sc, .call f es, .Call (.Name x _) es' [] _ => f == x && glB sc x && !dbg x && fs.contains x && !es'.isEmpty && chkEs sc es es'
  | sc, .bi f es, .Call (.Name x _) es' [] _ => Str.ofString f == x && glB sc x && bs.contains x && (biB.contains f || biT.contains f) && !es'.isEmpty && chkEs sc es es'
  | sc, .isi a t, .Call (.Name x _) es' [] _ => match es' with
    | [a', .Name y _] => x == ("isinstance" : Str) && glB sc x && bs.contains x && isiTs.contains t && Str.ofString t == y && glB sc y && bs.contains y && chkE sc a a' && !isStar a'
    | _ => false
  | sc, .lc x tg it c own, .ListComp x' gs scope _ => match gs with
    | [⟨tg', it', ifs', 0⟩] => blkC N sc scope own && chkI sc it tg' it' && chkTg scope N (own.map (·.2)) tg tg' && chkC (relS scope sc) c ifs' && chkE (relS scope sc) x x'
    | _ => false
  | sc, .lc2 x tg it c tg1 it1 c1 own vs1, .ListComp x' gs scope _ => match gs with
    | [⟨tg', it', ifs', 0⟩, ⟨tg1', it1', ifs1', 0⟩] => blkC N sc scope own && chkI sc it tg' it' && chkTg scope N (own.map (·.2)) tg tg' && chkC (relS scope sc) c ifs' && chkI (relS scope sc) it1 tg1' it1' && chkTg scope N vs1 tg1 tg1' && vs1.all (fun v => (own.map (·.2)).contains v) && chkC (relS scope sc) c1 ifs1' && chkE (relS scope sc) x x'
    | _ => false
  | sc, .sset a, .Call (.Name x _) es' [] _ => match es' with
    | [.Call (.Name y _) es2 [] _] => x == ("sorted" : Str) && glB sc x && bs.contains x && y == ("set" : Str) && glB sc y && bs.contains y && (match es2 with
      | [a'] => chkE sc a a' && !isStar a'
      | _ => false)
    | _ => false
  | sc, .bor _ e, e' => chkE sc e e'
  | sc, .oix a b, .Subscript a' b' _ => chkE sc a a' && chkE sc b b' && !isSlice b'
  | sc, .olen a, .Call (.Name x _) es' [] _ => match es' with
    | [a'] => x == ("len" : Str) && glB sc x && bs.contains x && chkE sc a a' && !isStar a'
    | _ => false
  | sc, .olist a, .Call (.Name x _) es' [] _ => match es' with
    | [a'] => x == ("list" : Str) && glB sc x && bs.contains x && chkE sc a a' && !isStar a'
    | _ => false
  | sc, .onew es, .List es' _ => chkEs sc es es'
  | sc, .om m a e, .Call (.Attribute a' m' apos) es' [] cpos => match es' with
    | [e'] => Str.ofString m == m' && oMs.contains m && baseB a' && apos.endLine == cpos.line && chkE sc a a' && chkE sc e e' && !isStar e'
    | _ => false
  | _, _, _ => false
  termination_by structural _ m => m
def chkEs : Scope → Es → List Expr → Bool
  | _, .nil, [] => true
  | sc, .cons e r, e' :: r' => chkE sc e e' && !isStar e' && chkEs sc r r'
  | _, _, _ => false
  termination_by structural _ m => m
def chkO : Scope → Eo → Option Expr → Bool
  | _, .none, none => true
  | sc, .some e, some e' => chkE sc e e'
  | _, _, _ => false
  termination_by structural _ m => m
def chkC : Scope → Eo → List Expr → Bool
  | _, .none, [] => true
  | sc, .some e, [e'] => chkE sc e e'
  | _, _, _ => false
  termination_by structural _ m => m
def chkI : Scope → It → Expr → Expr → Bool
  | sc, .sq e, _, e' => chkE sc e e' && !isSet e'
  | sc, .r1 a, _, .Call (.Name x _) es' [] _ => match es' with
    | [a'] => x == ("range" : Str) && glB sc x && bs.contains x && chkE sc a a' && !isStar a'
    | _ => false
  | sc, .r2 a b, _, .Call (.Name x _) es' [] _ => match es' with
    | [a', b'] => x == ("range" : Str) && glB sc x && bs.contains x && chkE sc a a' && !isStar a' && chkE sc b b' && !isStar b'
    | _ => false
  | sc, .r3 a b c, _, .Call (.Name x _) es' [] _ => match es' with
    | [a', b', c'] => x == ("range" : Str) && glB sc x && bs.contains x && chkE sc a a' && !isStar a' && chkE sc b b' && !isStar b' && chkE sc c c' && !isStar c'
    | _ => false
  | sc, .en e, .Tuple _ _ _, .Call (.Name x _) es' [] _ => match es' with
    | [a'] => x == ("enumerate" : Str) && glB sc x && bs.contains x && chkE sc e a' && !isStar a'
    | _ => false
  | _, _, _, _ => false
  termination_by structural _ m => m
end
end

/-! ### a program's top -/
section
variable (K : PySem.W.Frag) (CA : Str → Option Addr)
/-- the promise of a def whose meaning is g -/
def spC (g : List D → Obs → R D) : Sp := fun vs H Q E => ∃ W obs ds, HRel K CA W H obs ∧ (∀ p r, W.ρ p = some r → r.loose = false) ∧ W.reps K vs ds ∧ match g ds obs with
  | .ok d o => ∀ v W' H', W.leS W' → HRel K CA W' H' o → W'.rep K v d → Q v H'
  | .ex c a o => ∀ cls dd W' H', W.leS W' → HRel K CA W' H' o → XR K CA W' H' cls dd c a → E cls dd H'
  | .bad => False
/-- an exception class with an __init__ that keeps a place, as it is needed to raise and to catch -/
structure ClsOk (P : Program) (w : World) (K : PySem.W.Frag) (mg : Str → Option Value) (base : Heap) (CA : Str → Option Addr) (c : Str) : Prop where
  ex : ∃ C fI fd, CA c = some C ∧ mg c = some (.ref C) ∧ OexC K C ∧ PySem.W.findIn K (.ref C) "__init__" = some (some (.ref fI)) ∧ PySem.W.typeIn K (.ref fI) = some (.type "function") ∧
    FnOk P w K mg base (L2.CX P w) 1 fI fd ["self", "place"] (spInit C) ∧ Binds K fd ["self", "place"] [] ∧ XfC K C ∧ PySem.W.findIn K (.ref C) "place" = some none ∧ PySem.W.exmOne K (.ref C) (.ref C) = some true
/-- the names of such classes among the built-in ones -/
def clsNm (c : Str) : Str := ("!" : Str) ++ c
/-- what a program's top has left, for calls of n defs one in another -/
structure Mo (P : Program) (w : World) (mg : Str → Option Value) (base : Heap) (fs bs : List Str) (G : Str → Option D) (Φ : Str → List D → Obs → R D) (n : Nat) : Prop where
  bi : ∀ x ∈ bs, mg x = none
  gl : ∀ x d, G x = some d → ∃ u v, mg x = some u ∧ RelV v u ∧ Rep K (fun _ => none) [] v d
  fn : ∀ f ∈ fs, ∃ a fd ps, FnOk P w K mg base (L2.CX P w) n a fd ps (spC K CA (Φ f)) ∧ mg f = some (.ref a) ∧ PySem.W.keepIn K (.ref a) = true ∧ Binds K fd ps []
  cl : ∀ c, clsNm c ∈ bs → ClsOk P w K mg base CA c
  two : 2 ≤ n
end
/-- where code stands -/
structure Ctx (CA : Str → Option Addr) (fs bs N : List Str) (G : Str → Option D) (Φ : Str → List D → Obs → R D) (n : Nat) (sc : Scope) (X : Cx) : Prop where
  hN : X.N = N
  nd : N.Nodup
  hsc : X.env.scope = sc
  calm : X.calm = true
  room : Room n X.A
  mo : Mo X.K CA X.prog X.w X.mg X.base fs bs G Φ n
theorem visB_ok {sc : Scope} {x : Str} (h : visB sc x = true) : Vis sc x := by
  unfold visB at h
  split at h
  · exact .inl ‹_›
  · exact .inr (.inl ‹_›)
  · exact .inr (.inr ‹_›)
  · cases h
theorem locB_ok {sc : Scope} {x : Str} (h : locB sc x = true) : Loc sc x := by
  unfold locB at h
  split at h
  · exact .inl ‹_›
  · exact .inr ‹_›
  · cases h
theorem glB_ok {X : Cx} {sc : Scope} {x : Str} (e : X.env.scope = sc) (h : glB sc x = true) : Gl X x := by
  subst e
  unfold glB at h
  split at h
  · rename_i e; exact e
  · cases h
theorem star_ok {e : Expr} {es : List Expr} {env : PySem.Env} (h : isStar e = false) : starEach (e :: es) env = (false, eval e env) :: starEach es env := by
  cases e <;> first | rfl | (simp [isStar] at h)
theorem behind_ok {op : CmpOp} {e : Expr} (h : isSet e = false) : behindInMarks op e = false := by
  cases e <;> first | rfl | (simp [isSet] at h)
theorem plainIx_ok {e : Expr} (h : isSlice e = false) : PlainIx e := fun o i => by
  cases e <;> first | rfl | (simp [isSlice] at h)
theorem folded_ok {e : Expr} {env : PySem.Env} (h : isSet e = false) : ∀ x, foldedSetIterable e env x = pure x := fun x => by
  cases e <;> first | rfl | (simp [isSet] at h)

section
variable {K : PySem.W.Frag} {CA : Str → Option Addr} {W0 : WX} {W W1 : Wd} {H H1 : Hp} {obs : Obs} {env : Env} {σ : L2.St}
/-- a call as its caller sees it -/
theorem call_of {g : List D → Obs → R D} {ds : List D} {vs : List V} {Q : V → Hp → Prop} (S : SRel K CA W σ H env obs) (r : W.reps K vs ds) (h : GP K CA W0 (relE K) W env σ H Q (g ds obs)) : spC K CA g vs H Q (WE W0 σ) := by
  let Wc : Wd := { W with ρ := fun p => match W.ρ p with | some r => if r.loose then (H p).map Role.keep else some r | none => none }
  have hc1 : ∀ p r, W.ρ p = some r → r.loose = false → Wc.ρ p = some r := fun p r e l => by
    show (match W.ρ p with | some r => if r.loose then (H p).map Role.keep else some r | none => none) = some r
    rw [e]; simp [l]
  have hc2 : ∀ p r, W.ρ p = some r → r.loose = true → ∃ o, H p = some o ∧ Wc.ρ p = some (.keep o) := fun p r e l => by
    obtain ⟨o, ho⟩ := S.h.live p r e
    refine ⟨o, ho, ?_⟩
    show (match W.ρ p with | some r => if r.loose then (H p).map Role.keep else some r | none => none) = _
    rw [e]; simp [l, ho]
  have hc3 : ∀ p r, Wc.ρ p = some r → (∃ r0, W.ρ p = some r0 ∧ r0.loose = true ∧ ∃ o, H p = some o ∧ r = .keep o) ∨ (W.ρ p = some r ∧ r.loose = false) := fun p r e => by
    have e' : (match W.ρ p with | some r => if r.loose then (H p).map Role.keep else some r | none => none) = some r := e
    cases q : W.ρ p with
    | none => rw [q] at e'; cases e'
    | some r0 =>
      rw [q] at e'
      cases l : r0.loose with
      | true =>
        obtain ⟨o, ho, _⟩ := hc2 p r0 q l
        simp [l, ho] at e'
        exact .inl ⟨r0, rfl, l, o, ho, e'.symm⟩
      | false =>
        simp [l] at e'; subst e'
        exact .inr ⟨rfl, l⟩
  have lo : W.leO Wc := ⟨fun p r e l => hc1 p r e (Role.solid_loose l), fun _ _ e => e⟩
  have Hc : HRel K CA Wc H obs := by
    refine ⟨fun p o e => ?_, fun p o e => ?_, fun p r e => ?_, S.h.len, fun n ob e => ?_⟩
    · rcases hc3 p _ e with ⟨_, _, _, o', _, z⟩ | ⟨q, _⟩
      · cases z
      · exact S.h.fro p o q
    · rcases hc3 p _ e with ⟨_, _, _, o', ho, z⟩ | ⟨q, _⟩
      · cases z; exact ho
      · exact S.h.keep p o q
    · rcases hc3 p r e with ⟨_, _, _, o', ho, _⟩ | ⟨q, _⟩
      · exact ⟨o', ho⟩
      · exact S.h.live p r q
    · obtain ⟨p, a1, a2, a3⟩ := S.h.obs n ob e
      exact ⟨p, a1, lo.r p _ a2 rfl, a3.mono lo a2 fun _ _ _ _ => rfl⟩
  have back : ∀ {W' : Wd} {H' : Hp} {o : Obs}, Wc.leS W' → HRel K CA W' H' o → ∃ W2, W.leE W2 H H' ∧ SRel K CA W2 σ H' env o ∧ W'.dle W2 := fun {W' H' o} l HR => by
    let W2 : Wd := { W' with ρ := fun p => match W.ρ p with | some r => if r.loose then some r else W'.ρ p | none => W'.ρ p }
    have h1 : ∀ p r, W.ρ p = some r → W2.ρ p = some r := fun p r e => by
      show (match W.ρ p with | some r => if r.loose then some r else W'.ρ p | none => W'.ρ p) = some r
      rw [e]
      cases q : r.loose with
      | true => simp [q]
      | false => simp [q]; exact l.r p r (hc1 p r e q) q
    have h2 : ∀ p r, W.ρ p = some r → r.loose = true → H' p = H p := fun p r e q => by
      obtain ⟨o, ho, hk⟩ := hc2 p r e q
      rw [ho]; exact HR.keep p o (l.r p _ hk rfl)
    have h3 : ∀ p r, W2.ρ p = some r → (W.ρ p = some r ∧ r.loose = true) ∨ (W'.ρ p = some r) := fun p r e => by
      have e' : (match W.ρ p with | some r => if r.loose then some r else W'.ρ p | none => W'.ρ p) = some r := e
      cases q : W.ρ p with
      | none => rw [q] at e'; exact .inr e'
      | some r0 =>
        rw [q] at e'
        cases z : r0.loose with
        | true => simp [z] at e'; subst e'; exact .inl ⟨rfl, z⟩
        | false => simp [z] at e'; exact .inr e'
    have h4 : W'.leO W2 := ⟨fun p r e q => (by
      show (match W.ρ p with | some r => if r.loose then some r else W'.ρ p | none => W'.ρ p) = some r
      cases z : W.ρ p with
      | none => exact e
      | some r0 =>
        cases y : r0.loose with
        | false => simp [y]; exact e
        | true =>
          obtain ⟨o, _, hk⟩ := hc2 p r0 z y
          have := l.r p _ hk rfl
          rw [e] at this; cases this; cases q), fun _ _ e => e⟩
    have le : W.leE W2 H H' := ⟨h1, h2, fun n p e => l.a n p e⟩
    refine ⟨W2, le, ⟨⟨fun p o e => ?_, fun p o e => ?_, fun p r e => ?_, HR.len, fun n ob e => ?_⟩, S.len, fun i s e => ?_⟩, h4.d⟩
    · rcases h3 p _ e with ⟨_, q⟩ | q
      · cases q
      · exact HR.fro p o q
    · rcases h3 p _ e with ⟨_, q⟩ | q
      · cases q
      · exact HR.keep p o q
    · rcases h3 p r e with ⟨q, z⟩ | q
      · obtain ⟨o, ho, _⟩ := hc2 p r q z
        exact ⟨o, by rw [h2 p r q z]; exact ho⟩
      · exact HR.live p r q
    · obtain ⟨p, a1, a2, a3⟩ := HR.obs n ob e
      exact ⟨p, a1, h4.r p _ a2 rfl, a3.mono h4 a2 fun _ _ _ _ => rfl⟩
    · exact SlR.mono le.d (fun p q => ⟨h1 p _ q, h2 p _ q rfl⟩) (S.sl i s e)
  refine ⟨Wc, obs, ds, Hc, fun p r e => ?_, lo.d.reps r, ?_⟩
  · rcases hc3 p r e with ⟨_, _, _, _, _, z⟩ | ⟨_, q⟩
    · subst z; rfl
    · exact q
  · cases q : g ds obs with
    | ok d o =>
      intro v W' H' l HR rv
      obtain ⟨W2, le, S2, dl⟩ := back l HR
      rw [q] at h
      exact h v W2 H' le S2 (dl.rep rv)
    | ex c a o =>
      intro cls dd W' H' l HR rx
      obtain ⟨W2, le, S2, dl⟩ := back l HR
      rw [q] at h
      refine h cls dd W2 H' le S2 ?_
      cases a with
      | non => exact rx
      | _ =>
        obtain ⟨C, d1, v, e1, e2, e3, e4, e5⟩ := rx
        exact ⟨C, d1, v, e1, e2, e3, e4, dl.rep e5⟩
    | bad => rw [q] at h; exact h
end
end Mp

set_option Elab.async false
set_option linter.all false
set_option maxRecDepth 100000
/-! What is walked; comprehensions. -/
namespace Mp
open PySem PySem.Spec PyProof.Rows L2

theorem PI.or {X : Cx} {tg it : Expr} {w w' : TI} (h : PI X tg it w) (h' : PI X tg it w') : PI X tg it (fun σ H R => w σ H R ∨ w' σ H R) :=
  ⟨fun pins s σ H R I q => q.elim (h.run pins s σ H R I) (h'.run pins s σ H R I)⟩
theorem PI.weak {X : Cx} {tg it : Expr} {t t' : TI} (h : PI X tg it t) (w : ∀ σ H Q, t' σ H Q → t σ H Q) : PI X tg it t' := ⟨fun pins s σ H Q I q => h.run pins s σ H Q I (w σ H Q q)⟩

section
variable (K : PySem.W.Frag) (CA : Str → Option Addr)
/-- an iterator that gives the data ds, one after another, whatever is done meanwhile -/
structure Wlk (W : Wd) (J : L2.It) (ds : List D) : Prop where
  go : ∀ (i : Nat) (d : D) (W2 : Wd) (σ : L2.St) (H2 : Hp) (env : Env) (o : Obs), W.leS W2 → SRel K CA W2 σ H2 env o → ds[i]? = some d → J.go i H2 ∧ ∀ x H3, J.yld i H2 x H3 → ∃ W3, W2.leE W3 H2 H3 ∧ SRel K CA W3 σ H3 env o ∧ W3.rep K x d
  stop : ∀ (i : Nat) (W2 : Wd) (σ : L2.St) (H2 : Hp) (env : Env) (o : Obs), W.leS W2 → SRel K CA W2 σ H2 env o → ds.length ≤ i → J.stop i H2
abbrev relI : Rl (List D) L2.It := fun _ W' _ J ds => Wlk K CA W' J ds
end
section
variable {K : PySem.W.Frag} {CA : Str → Option Addr}
theorem earlyI : Rl.Early (relI K CA) := fun _ _ _ _ _ _ _ _ _ h => h
theorem wlk_list {W : Wd} {a : Addr} {vs : List V} {ds : List D} (hF : W.F a = some (.lst vs)) (r : W.reps K vs ds) : Wlk K CA W (Itl K a) ds := by
  refine ⟨fun i d W2 σ H2 env o l S e => ?_, fun i W2 σ H2 env o l S e => ?_⟩
  · have h2 : H2 a = some (.lst vs) := S.h.fro a _ (l.r a _ (Wd.F_of.mp hF) rfl)
    obtain ⟨v, hv, rv⟩ := r.get e
    refine ⟨⟨vs, v, SqL.of h2, hv⟩, fun x H3 ⟨e3, hx⟩ => ?_⟩
    subst e3
    have := hx vs (SqL.of h2)
    rw [hv] at this; cases this
    exact ⟨W2, .refl, S, l.d.rep rv⟩
  · have h2 : H2 a = some (.lst vs) := S.h.fro a _ (l.r a _ (Wd.F_of.mp hF) rfl)
    exact ⟨vs, SqL.of h2, by rw [r.length]; exact e⟩
theorem wlk_tup {W : Wd} {a : Addr} {vs : List V} {ds : List D} (hF : SqT K W.F a vs) (r : W.reps K vs ds) : Wlk K CA W (Itt K a) ds := by
  refine ⟨fun i d W2 σ H2 env o l S e => ?_, fun i W2 σ H2 env o l S e => ?_⟩
  · have h2 : SqT K H2 a vs := SqT.mono hF fun p o q => S.h.fro p o (l.r p _ (Wd.F_of.mp q) rfl)
    obtain ⟨v, hv, rv⟩ := r.get e
    refine ⟨⟨vs, v, h2, hv⟩, fun x H3 ⟨e3, hx⟩ => ?_⟩
    subst e3
    have := hx vs h2
    rw [hv] at this; cases this
    exact ⟨W2, .refl, S, l.d.rep rv⟩
  · have h2 : SqT K H2 a vs := SqT.mono hF fun p o q => S.h.fro p o (l.r p _ (Wd.F_of.mp q) rfl)
    exact ⟨vs, h2, by rw [r.length]; exact e⟩
theorem rangeD_get {lo c : Int} {n i : Nat} {d : D} (e : (rangeD lo n c)[i]? = some d) : i < n ∧ d = .int (lo + (i : Nat) * c) := by
  unfold rangeD at e
  rw [List.getElem?_map] at e
  cases q : (List.range n)[i]? with
  | none => rw [q] at e; cases e
  | some j =>
    rw [q] at e
    have hj := List.getElem?_range (n := n) (i := i)
    obtain ⟨h1, h2⟩ := List.getElem?_eq_some_iff.mp q
    rw [List.length_range] at h1
    rw [List.getElem_range] at h2
    subst h2
    exact ⟨h1, (Option.some.inj e).symm⟩
theorem rangeD_length {lo c : Int} {n : Nat} : (rangeD lo n c).length = n := by simp [rangeD]
theorem wlk_range {W : Wd} {lo : Int} {n : Nat} : Wlk K CA W (Itr lo n) (rangeD lo n 1) := by
  refine ⟨fun i d W2 σ H2 env o l S e => ?_, fun i W2 σ H2 env o l S e => ?_⟩
  · obtain ⟨h1, h2⟩ := rangeD_get e
    refine ⟨h1, fun x H3 ⟨e3, hx⟩ => ?_⟩
    subst e3; subst hx; subst h2
    exact ⟨W2, .refl, S, by rw [Int.mul_one]; exact .int _⟩
  · rw [rangeD_length] at e; exact e
theorem wlk_rangeC {W : Wd} {lo c : Int} {n : Nat} : Wlk K CA W (Itc lo c n) (rangeD lo n c) := by
  refine ⟨fun i d W2 σ H2 env o l S e => ?_, fun i W2 σ H2 env o l S e => ?_⟩
  · obtain ⟨h1, h2⟩ := rangeD_get e
    refine ⟨h1, fun x H3 ⟨e3, hx⟩ => ?_⟩
    subst e3; subst hx; subst h2
    exact ⟨W2, .refl, S, .int _⟩
  · rw [rangeD_length] at e; exact e
theorem enumD_get {ds : List D} {i : Nat} {d : D} (e : (enumD ds)[i]? = some d) : ∃ x, ds[i]? = some x ∧ d = .tup [.int (i : Nat), x] := by
  unfold enumD at e
  rw [List.getElem?_map, List.getElem?_zipIdx] at e
  cases q : ds[i]? with
  | none => rw [q] at e; simp at e
  | some x =>
    rw [q] at e
    simp at e
    exact ⟨x, rfl, e.symm⟩
theorem wlk_enum {W : Wd} {a : Addr} {vs : List V} {ds : List D} (hF : W.F a = some (.lst vs)) (r : W.reps K vs ds) : Wlk K CA W (Ite K a) (enumD ds) := by
  refine ⟨fun i d W2 σ H2 env o l S e => ?_, fun i W2 σ H2 env o l S e => ?_⟩
  · have h2 : H2 a = some (.lst vs) := S.h.fro a _ (l.r a _ (Wd.F_of.mp hF) rfl)
    obtain ⟨y, hy, rfl⟩ := enumD_get e
    obtain ⟨v, hv, rv⟩ := r.get hy
    refine ⟨⟨vs, v, SqL.of h2, hv⟩, fun x H3 hx => ?_⟩
    obtain ⟨T, z, ex, hT, e3, hz⟩ := hx
    have := hz vs (SqL.of h2)
    rw [hv] at this; cases this
    subst e3; subst ex
    have n := S.h.fresh hT
    refine ⟨W2.put T (.fro (.tup [.int (i : Nat), v])), leE_add n, S.add hT (fun u e => by injection e with e; exact e.symm) (fun u e => nomatch e), .tup (.inl (.inl (Wd.F_of.mpr Wd.put_same))) (.cons (.int _) (.cons ?_ .nil))⟩
    exact (leE_add (H := H2) (o := .tup [.int (i : Nat), v]) n).d.rep (l.d.rep rv)
  · have h2 : H2 a = some (.lst vs) := S.h.fro a _ (l.r a _ (Wd.F_of.mp hF) rfl)
    exact ⟨vs, SqL.of h2, by rw [r.length]; simpa [enumD] using e⟩
theorem wlk_enumT {W : Wd} {a : Addr} {vs : List V} {ds : List D} (hF : SqT K W.F a vs) (r : W.reps K vs ds) : Wlk K CA W (IteT K a) (enumD ds) := by
  have up : ∀ {W2 : Wd} {H2 : Hp} {env : Env} {o : Obs} {σ : L2.St}, W.leS W2 → SRel K CA W2 σ H2 env o → SqT K H2 a vs := fun l S => SqT.mono hF fun p o q => S.h.fro p o (l.r p _ (Wd.F_of.mp q) rfl)
  refine ⟨fun i d W2 σ H2 env o l S e => ?_, fun i W2 σ H2 env o l S e => ⟨vs, up l S, by rw [r.length]; simpa [enumD] using e⟩⟩
  obtain ⟨y, hy, rfl⟩ := enumD_get e
  obtain ⟨v, hv, rv⟩ := r.get hy
  refine ⟨⟨vs, v, up l S, hv⟩, fun x H3 ⟨T, z, ex, hT, e3, hz⟩ => ?_⟩
  have := hz vs (up l S)
  rw [hv] at this; cases this
  subst e3; subst ex
  have n := S.h.fresh hT
  refine ⟨W2.put T (.fro (.tup [.int (i : Nat), v])), leE_add n, S.add hT (fun u e => by injection e with e; exact e.symm) (fun u e => nomatch e), .tup (.inl (.inl (Wd.F_of.mpr Wd.put_same))) (.cons (.int _) (.cons ?_ .nil))⟩
  exact (leE_add (H := H2) (o := .tup [.int (i : Nat), v]) n).d.rep (l.d.rep rv)
end

/-! ### slots wiped and set -/
theorem wipe_get {σ : L2.St} {i : Nat} {vs : List Nat} (h : i ∈ vs) (hi : i < σ.length) : (wipe σ vs)[i]? = some none := by
  induction vs with
  | nil => cases h
  | cons v vs ih =>
    unfold wipe
    by_cases e : v = i
    · subst e
      rw [List.getElem?_set_self (by rw [wipe_length]; exact hi)]
    · rw [List.getElem?_set_ne e]
      rcases List.mem_cons.mp h with q | q
      · exact absurd q.symm e
      · exact ih q
theorem wipe_eq {σ τ : L2.St} {vs : List Nat} (hl : τ.length = σ.length) (h : ∀ i, i ∉ vs → τ[i]? = σ[i]?) : wipe τ vs = wipe σ vs := by
  apply List.ext_getElem?
  intro i
  by_cases hi : i ∈ vs
  · by_cases hs : i < σ.length
    · rw [wipe_get hi hs, wipe_get hi (by rw [hl]; exact hs)]
    · rw [List.getElem?_eq_none (by rw [wipe_length]; omega), List.getElem?_eq_none (by rw [wipe_length]; omega)]
  · rw [wipe_out hi, wipe_out hi, h i hi]
theorem wipe_wipe (σ : L2.St) (vs : List Nat) : wipe (wipe σ vs) vs = wipe σ vs := wipe_eq (wipe_length _ _) fun i hi => wipe_out hi
theorem wipe_set {σ : L2.St} {i : Nat} {x : Option V} {vs : List Nat} (hi : i ∈ vs) : wipe (σ.set i x) vs = wipe σ vs := wipe_eq (by simp) fun j hj => by
  rw [List.getElem?_set_ne fun e => hj (by rw [← e]; exact hi)]
theorem wipeE_length (env : Env) : ∀ vs : List Nat, (wipeE env vs).length = env.length
  | [] => rfl
  | v :: vs => by unfold wipeE; rw [List.length_set, wipeE_length env vs]
theorem wipeE_out {env : Env} {i : Nat} : ∀ {vs : List Nat}, i ∉ vs → (wipeE env vs)[i]? = env[i]?
  | [], _ => rfl
  | v :: vs, h => by
    unfold wipeE
    rw [List.getElem?_set_ne fun e => h (by rw [e]; exact List.mem_cons_self)]
    exact wipeE_out fun q => h (List.mem_cons_of_mem _ q)
theorem wipeE_in {env : Env} {i : Nat} {s : Sl} : ∀ {vs : List Nat}, i ∈ vs → (wipeE env vs)[i]? = some s → s = .un
  | v :: vs, h, e => by
    unfold wipeE at e
    by_cases q : v = i
    · subst q
      rw [List.getElem?_set_self (by have := (List.getElem?_eq_some_iff.mp e).1; simpa [wipeE_length] using this)] at e
      exact (Option.some.inj e).symm
    · rw [List.getElem?_set_ne q] at e
      rcases List.mem_cons.mp h with z | z
      · exact absurd z.symm q
      · exact wipeE_in z e
section
variable {K : PySem.W.Frag} {CA : Str → Option Addr} {W : Wd} {σ : L2.St} {H : Hp} {env : Env} {obs : Obs}
theorem SRel.wipe (S : SRel K CA W σ H env obs) (vs : List Nat) : SRel K CA W (L2.wipe σ vs) H (wipeE env vs) obs :=
  S.weak (by rw [wipe_length, wipeE_length]; exact S.len) fun i s e => by
    by_cases hi : i ∈ vs
    · exact .inl (wipeE_in hi e)
    · rw [wipeE_out hi] at e
      exact .inr ⟨e, wipe_out hi⟩
/-- targets -/
def setV : List Nat → List V → L2.St → L2.St
  | i :: is, v :: vs, σ => setV is vs (σ.set i (some v))
  | _, _, σ => σ
theorem SRel.setTs : ∀ {ts : List Nat} {vs : List V} {ds : List D} {σ : L2.St} {env env' : Env}, SRel K CA W σ H env obs → W.reps K vs ds → setTs ts ds env = some env' → SRel K CA W (setV ts vs σ) H env' obs
  | [], _, _, _, _, _, S, .nil, e => by cases e; exact S
  | i :: is, v :: vs, d :: ds, σ, env, env', S, .cons r rs, e => by
    show SRel K CA W (setV is vs (σ.set i (some v))) H env' obs
    exact SRel.setTs (S.set (i := i) (s := .v d) ⟨v, rfl, r⟩) rs e
  | [], _, _, _, _, _, _, .cons _ _, e => by cases e
  | _ :: _, _, _, _, _, _, _, .nil, e => by cases e
theorem setV_wipe : ∀ {ts : List Nat} {vs : List V} {σ : L2.St} {own : List Nat}, (∀ i ∈ ts, i ∈ own) → L2.wipe (setV ts vs σ) own = L2.wipe σ own
  | [], _, _, _, _ => rfl
  | _ :: _, [], _, _, _ => rfl
  | i :: is, v :: vs, σ, own, h => by
    show L2.wipe (setV is vs (σ.set i (some v))) own = _
    rw [setV_wipe fun j hj => h j (List.mem_cons_of_mem _ hj), wipe_set (h i List.mem_cons_self)]
end
/-- the targets of a tuple -/
def gNms : List Nat → TGs
  | [] => gNil
  | i :: is => gCons (gName i) (gNms is)
theorem gNms_of : ∀ {ts : List Nat} {vs : List V} {σ : L2.St} {H : Hp} {Q : L2.St → Hp → Prop}, vs.length = ts.length → Q (setV ts vs σ) H → gNms ts vs σ H Q
  | [], [], _, _, _, _, q => ⟨rfl, q⟩
  | [], _ :: _, _, _, _, h, _ => by cases h
  | _ :: _, [], _, _, _, h, _ => by cases h
  | i :: is, v :: vs, _, _, _, h, q => ⟨v, vs, rfl, gNms_of (by simpa using h) q⟩
def gT1 (K : PySem.W.Frag) : Nat ⊕ List Nat → TG
  | .inl i => gName i
  | .inr ts => gTup K ts.length (gNms ts)
def gTt (K : PySem.W.Frag) : List (Nat ⊕ List Nat) → TGs
  | [] => gNil
  | t :: ts => gCons (gT1 K t) (gTt K ts)
def gTg (K : PySem.W.Frag) : Tg → TG
  | .nm i => gName i
  | .tp ts => gTup K ts.length (gNms ts)
  | .tt ts => gTup K ts.length (gTt K ts)
/-- the slots of a target -/
def slT1 : Nat ⊕ List Nat → List Nat
  | .inl i => [i]
  | .inr ts => ts
def slTt : List (Nat ⊕ List Nat) → List Nat
  | [] => []
  | t :: ts => slT1 t ++ slTt ts
def Tg.sl : Tg → List Nat
  | .nm i => [i]
  | .tp ts => ts
  | .tt ts => slTt ts
section
variable {X : Cx} {N : List Str} {sc : Scope}
abbrev LocOk (X : Cx) (sc : Scope) : Prop := ∀ x, locB sc x = true → Loc X.env.scope x ∧ (X.fn x = true ∨ X.env.scope.names.lookup x = some .local)
theorem pg_nm1 (hN : X.N = N) (nd : N.Nodup) (hsc : LocOk X sc) {own : List Nat} {i : Nat} {e : Expr} (h : chkNm1 sc N own i e = true) : PG X e (gName i) ∧ i ∈ own ∧ ∀ es, assignEach (e :: es) X.env = (false, assign e X.env) :: assignEach es X.env := by
  cases e with
  | Name x pos =>
    simp only [chkNm1, Bool.and_eq_true, decide_eq_true_eq] at h
    obtain ⟨⟨a, b⟩, c⟩ := h
    obtain ⟨l1, l2⟩ := hsc x b
    exact ⟨pg_name (by rw [hN]; exact nd) (by rw [hN]; exact a) l1 l2, by simpa using c, fun _ => rfl⟩
  | _ => simp [chkNm1] at h
theorem pg_nm2 (hN : X.N = N) (nd : N.Nodup) (hsc : LocOk X sc) {own : List Nat} : ∀ {ts : List Nat} {es : List Expr}, chkNm2 sc N own ts es = true →
    PGs X es (gNms ts) ∧ (∀ i ∈ ts, i ∈ own) ∧ (assignEach es X.env).length = ts.length ∧ (assignEach es X.env).findIdx? (·.1) = none
  | [], [], _ => ⟨pgs_nil, by simp, rfl, rfl⟩
  | [], _ :: _, h => by simp [chkNm2] at h
  | _ :: _, [], h => by simp [chkNm2] at h
  | t :: ts, e :: es, h => by
    simp only [chkNm2, Bool.and_eq_true] at h
    obtain ⟨h1, h2, h3, h4⟩ := pg_nm2 hN nd hsc h.2
    obtain ⟨g1, g2, g3⟩ := pg_nm1 hN nd hsc h.1
    refine ⟨pgs_cons g1 h1 (by rw [g3 es]; rfl), ?_, ?_, ?_⟩
    · intro i hi
      rcases List.mem_cons.mp hi with rfl | hi
      · exact g2
      · exact h2 i hi
    · rw [g3 es, List.length_cons, h3]; rfl
    · rw [g3 es, List.findIdx?_cons]
      simp [h4]
theorem pg_t1 (hN : X.N = N) (nd : N.Nodup) (hc : X.calm = true) (hsc : LocOk X sc) {own : List Nat} {t : Nat ⊕ List Nat} {e : Expr} (h : chkT1 sc N own t e = true) : PG X e (gT1 X.K t) ∧ (∀ i ∈ slT1 t, i ∈ own) ∧ ∀ es, assignEach (e :: es) X.env = (false, assign e X.env) :: assignEach es X.env := by
  cases t with
  | inl i =>
    obtain ⟨g1, g2, g3⟩ := pg_nm1 hN nd hsc (by simpa only [chkT1] using h)
    refine ⟨g1, ?_, g3⟩
    intro j hj
    simp only [slT1, List.mem_singleton] at hj
    subst hj; exact g2
  | inr ts =>
    cases e with
    | Tuple es k pos =>
      obtain ⟨h1, h2, h3, h4⟩ := pg_nm2 hN nd hsc (by simpa only [chkT1] using h)
      exact ⟨pg_tup hc h1 h3 h4, h2, fun _ => rfl⟩
    | _ => simp [chkT1] at h
theorem pg_tt (hN : X.N = N) (nd : N.Nodup) (hc : X.calm = true) (hsc : LocOk X sc) {own : List Nat} : ∀ {ts : List (Nat ⊕ List Nat)} {es : List Expr}, chkTt sc N own ts es = true →
    PGs X es (gTt X.K ts) ∧ (∀ i ∈ slTt ts, i ∈ own) ∧ (assignEach es X.env).length = ts.length ∧ (assignEach es X.env).findIdx? (·.1) = none
  | [], [], _ => ⟨pgs_nil, by simp [slTt], rfl, rfl⟩
  | [], _ :: _, h => by simp [chkTt] at h
  | _ :: _, [], h => by simp [chkTt] at h
  | t :: ts, e :: es, h => by
    simp only [chkTt, Bool.and_eq_true] at h
    obtain ⟨h1, h2, h3, h4⟩ := pg_tt hN nd hc hsc h.2
    obtain ⟨g1, g2, g3⟩ := pg_t1 hN nd hc hsc h.1
    refine ⟨pgs_cons g1 h1 (by rw [g3 es]; rfl), ?_, ?_, ?_⟩
    · intro i hi
      rcases List.mem_append.mp hi with hi | hi
      · exact g2 i hi
      · exact h2 i hi
    · rw [g3 es, List.length_cons, h3]; rfl
    · rw [g3 es, List.findIdx?_cons]
      simp [h4]
theorem pg_of (hN : X.N = N) (nd : N.Nodup) (hc : X.calm = true) (hsc : LocOk X sc) {own : List Nat} {tg : Tg} {e : Expr} (h : chkTg sc N own tg e = true) :
    PG X e (gTg X.K tg) ∧ ∀ i ∈ tg.sl, i ∈ own := by
  cases tg with
  | nm i =>
    obtain ⟨g1, g2, _⟩ := pg_nm1 hN nd hsc (by simpa only [chkTg] using h)
    refine ⟨g1, ?_⟩
    intro j hj
    simp only [Tg.sl, List.mem_singleton] at hj
    subst hj; exact g2
  | tp ts =>
    cases e with
    | Tuple es k pos =>
      obtain ⟨h1, h2, h3, h4⟩ := pg_nm2 hN nd hsc (by simpa only [chkTg] using h)
      exact ⟨pg_tup hc h1 h3 h4, h2⟩
    | _ => simp [chkTg] at h
  | tt ts =>
    cases e with
    | Tuple es k pos =>
      obtain ⟨h1, h2, h3, h4⟩ := pg_tt hN nd hc hsc (by simpa only [chkTg] using h)
      exact ⟨pg_tup hc h1 h3 h4, h2⟩
    | _ => simp [chkTg] at h
end
/-- the state behind a store: only these slots are other -/
def SameBut (σ σ' : L2.St) (is : List Nat) : Prop := σ'.length = σ.length ∧ ∀ i, i ∉ is → σ'[i]? = σ[i]?
theorem SameBut.wipe {σ σ' : L2.St} {is own : List Nat} (h : SameBut σ σ' is) (s : ∀ i ∈ is, i ∈ own) : L2.wipe σ' own = L2.wipe σ own := wipe_eq h.1 fun i hi => h.2 i fun z => hi (s i z)
theorem SameBut.refl {σ : L2.St} {is : List Nat} : SameBut σ σ is := ⟨rfl, fun _ _ => rfl⟩
theorem SameBut.set {σ : L2.St} {i : Nat} {x : Option V} : SameBut σ (σ.set i x) [i] := ⟨by simp, fun j hj => by rw [List.getElem?_set_ne fun e => hj (by rw [e]; exact List.mem_singleton.mpr rfl)]⟩
theorem SameBut.trans {σ σ1 σ2 : L2.St} {a b : List Nat} (h : SameBut σ σ1 a) (g : SameBut σ1 σ2 b) : SameBut σ σ2 (a ++ b) := ⟨g.1.trans h.1, fun i hi => by
  rw [List.mem_append, not_or] at hi
  exact (g.2 i hi.2).trans (h.2 i hi.1)⟩
theorem SameBut.setV : ∀ {ts : List Nat} {vs : List V} {σ : L2.St}, SameBut σ (setV ts vs σ) ts
  | [], _, _ => .refl
  | _ :: _, [], _ => .refl
  | i :: is, v :: vs, σ => by
    show SameBut σ (Mp.setV is vs (σ.set i (some v))) ([i] ++ is)
    exact SameBut.set.trans SameBut.setV
section
variable {K : PySem.W.Frag} {CA : Str → Option Addr} {W : Wd} {σ : L2.St} {H : Hp} {env : Env} {obs : Obs}
theorem t1_of {t : Nat ⊕ List Nat} {v : V} {d : D} {env' : Env} {Q : L2.St → Hp → Prop} (S : SRel K CA W σ H env obs) (r : W.rep K v d) (e : setT1 t d env = some env')
    (q : ∀ σ', SRel K CA W σ' H env' obs → SameBut σ σ' (slT1 t) → Q σ' H) : gT1 K t v σ H Q := by
  cases t with
  | inl i =>
    cases e
    exact q _ (S.set (s := .v d) ⟨v, rfl, r⟩) .set
  | inr ts =>
    unfold setT1 at e
    cases d with
    | tup ds =>
      simp only at e
      split at e
      · rename_i hl
        obtain ⟨p, vs, rfl, h1, r1⟩ := S.tup r
        exact ⟨p, vs, rfl, h1, by rw [r1.length]; exact hl, gNms_of (by rw [r1.length]; exact hl) (q _ (S.setTs r1 e) .setV)⟩
      · cases e
    | _ => cases e
theorem tt_of : ∀ {ts : List (Nat ⊕ List Nat)} {vs : List V} {ds : List D} {σ : L2.St} {env env' : Env} {Q : L2.St → Hp → Prop}, SRel K CA W σ H env obs → W.reps K vs ds → setTt ts ds env = some env' →
    (∀ σ', SRel K CA W σ' H env' obs → SameBut σ σ' (slTt ts) → Q σ' H) → gTt K ts vs σ H Q
  | [], [], [], σ, env, env', Q, S, _, e, q => by cases e; exact ⟨rfl, q σ S .refl⟩
  | t :: ts, v :: vs, d :: ds, σ, env, env', Q, S, .cons r rs, e, q => by
    unfold setTt at e
    rw [Option.bind_eq_some_iff] at e
    obtain ⟨env1, e1, e2⟩ := e
    refine ⟨v, vs, rfl, t1_of S r e1 fun σ1 S1 b1 => ?_⟩
    exact tt_of S1 rs e2 fun σ2 S2 b2 => q σ2 S2 (b1.trans b2)
  | [], _ :: _, _ :: _, _, _, _, _, _, _, e, _ => by cases e
  | _ :: _, [], [], _, _, _, _, _, _, e, _ => by cases e
/-- a target is stored to -/
theorem tg_of {tg : Tg} {v : V} {d : D} {env' : Env} {Q : L2.St → Hp → Prop} (S : SRel K CA W σ H env obs) (r : W.rep K v d) (e : setTg tg d env = some env')
    (q : ∀ σ', SRel K CA W σ' H env' obs → SameBut σ σ' tg.sl → Q σ' H) : gTg K tg v σ H Q := by
  cases tg with
  | nm i =>
    cases e
    exact q _ (S.set (s := .v d) ⟨v, rfl, r⟩) .set
  | tp ts =>
    unfold setTg at e
    cases d with
    | tup ds =>
      simp only at e
      split at e
      · rename_i hl
        obtain ⟨p, vs, rfl, h1, r1⟩ := S.tup r
        exact ⟨p, vs, rfl, h1, by rw [r1.length]; exact hl, gNms_of (by rw [r1.length]; exact hl) (q _ (S.setTs r1 e) .setV)⟩
      · cases e
    | _ => cases e
  | tt ts =>
    unfold setTg at e
    cases d with
    | tup ds =>
      simp only at e
      split at e
      · rename_i hl
        obtain ⟨p, vs, rfl, h1, r1⟩ := S.tup r
        exact ⟨p, vs, rfl, h1, by rw [r1.length]; exact hl, tt_of S r1 e q⟩
      · cases e
    | _ => cases e
/-- a list that is made grows -/
theorem SRel.grow {p : Addr} {xs ys : List V} (S : SRel K CA W σ H env obs) (hr : W.ρ p = some .acc) : SRel K CA W σ (upd H p (.lst ys)) env obs := by
  have ne : ∀ q r', W.ρ q = some r' → r' ≠ .acc → q ≠ p := fun q r' e l z => by rw [z, hr] at e; cases e; exact l rfl
  refine ⟨⟨fun q u e => ?_, fun q u e => ?_, fun q u e => ?_, S.h.len, fun n ob e => ?_⟩, S.len, fun j t e => ?_⟩
  · rw [upd_ne (ne q _ e (by simp))]; exact S.h.fro q u e
  · rw [upd_ne (ne q _ e (by simp))]; exact S.h.keep q u e
  · by_cases hq : q = p
    · subst hq; exact ⟨_, upd_same⟩
    · rw [upd_ne hq]; exact S.h.live q u e
  · obtain ⟨q, a1, a2, a3⟩ := S.h.obs n ob e
    refine ⟨q, a1, a2, a3.mono Wd.leS.refl.o a2 fun q r z hz => upd_ne (ne q r z ?_)⟩
    rcases hz with rfl | rfl <;> simp
  · exact SlR.mono .refl (fun q z => ⟨z, upd_ne (ne q _ z (by simp))⟩) (S.sl j t e)
end
/-- THE COMPREHENSION: the reading of [elt for tg in it if c] from the data's -/
theorem lc_of {K : PySem.W.Frag} {CA : Str → Option Addr} {W0 : WX} {di : Env → Obs → R (List D)} {t : Env → Obs → R Bool} {x : Env → Obs → R D} {own : List Nat} {tg : Tg} {σ : L2.St} {H : Hp} {Q : V → Hp → Prop} (ht : ∀ i ∈ tg.sl, i ∈ own)
    (h : LF K CA W0 (fun env o => (di env o).bind fun ds o => lcD own tg t x env ds [] o) σ H Q) :
    tLc (LG K CA W0 (relI K CA) di) (gTg K tg) (LT K CA (fun _ _ _ _ => False) t) (LE K CA (fun _ _ _ _ => False) x) own σ H Q := by
  obtain ⟨W, env, obs, S, h⟩ := h
  refine LG.bnd earlyF S h fun ds o1 J W1 H1 l1 S1 wk h1 => ?_
  intro Dd hD
  have hn := S1.h.fresh hD
  let inv : Nat → Nat → Hp → Prop := fun i m H' => m = ds.length - i ∧ ∃ Wd acc vs o, W1.leE Wd H1 H' ∧ SRel K CA Wd σ H' env o ∧ Wd.ρ Dd = some .acc ∧ H' Dd = some (.lst vs) ∧ Wd.reps K vs acc ∧
    GP K CA W0 (relF K) W1 env σ H1 Q (lcD own tg t x env (ds.drop i) acc o)
  refine ⟨inv, ⟨ds.length, by simp, W1.put Dd .acc, [], [], o1, leE_add hn, S1.add hD (fun u e => nomatch e) (fun u e => nomatch e), Wd.put_same, upd_same, .nil, by rw [List.drop_zero]; exact h1⟩, ?_⟩
  rintro i m H2 ⟨rfl, Wd, acc, vs, o, le, S2, ra, ha, rs, g⟩
  cases hd : ds.drop i with
  | nil =>
    rw [hd] at g
    have hlen : ds.length ≤ i := List.drop_eq_nil_iff.mp hd
    exact .inl ⟨wk.stop i Wd σ H2 env o le.s S2 hlen, g (.ref Dd) Wd H2 le S2 ⟨Dd, vs, rfl, hn, ra, ha, rs⟩⟩
  | cons d rest =>
    rw [hd] at g
    have hil : i < ds.length := by
      apply Nat.lt_of_not_le
      intro q
      rw [List.drop_eq_nil_of_le q] at hd; cases hd
    have hdi : ds[i]? = some d := by
      have := List.getElem?_drop (xs := ds) (i := i) (j := 0)
      rw [hd] at this; simpa using this.symm
    have hrest : ds.drop (i + 1) = rest := by
      have := List.drop_drop (i := 1) (j := i) (l := ds)
      rw [hd] at this; simpa [Nat.add_comm] using this.symm
    obtain ⟨hgo, hy⟩ := wk.go i d Wd σ H2 env o le.s S2 hdi
    refine .inr ⟨hgo, fun H' => inv (i + 1) (ds.length - (i + 1)) H', fun H' q => ⟨ds.length - (i + 1), by omega, q⟩, fun v H3 y3 => ?_⟩
    obtain ⟨W3, le3, S3, rv⟩ := hy v H3 y3
    have ra3 : W3.ρ Dd = some .acc := le3.r _ _ ra
    have ha3 : H3 Dd = some (.lst vs) := (le3.o _ _ ra rfl).trans ha
    unfold lcD at g
    cases es : setTg tg d (wipeE env own) with
    | none => rw [es] at g; exact g.elim
    | some env' =>
      rw [es] at g
      simp only at g
      refine tg_of (S3.wipe own) rv es fun σ' S4 sb => ?_
      have wp : L2.wipe σ' own = L2.wipe σ own := by rw [sb.wipe ht, wipe_wipe]
      refine ⟨wp, W3, env', o, S4, ?_⟩
      have backS : ∀ {W' : Mp.Wd} {H' : Hp} {o' : Obs} , W3.leE W' H3 H' → SRel K CA W' σ' H' env' o' → SRel K CA W' σ H' env o' := fun {W' H' o'} l S' =>
        ⟨S'.h, S3.len, fun j s e => SlR.mono l.d (fun p z => ⟨l.r p _ z, l.o p _ z rfl⟩) (S3.sl j s e)⟩
      cases et : t env' o with
      | bad => rw [et] at g; exact g.elim
      | ex c a o' => rw [et] at g; exact g.elim
      | ok b o2 =>
        rw [et] at g
        intro b' W4 H4 l4 S5 hb
        have hb : b' = b := hb
        subst hb
        cases b' with
        | false =>
          simp only [Bool.false_eq_true, if_false, R.noex_ok, R.bind_ok] at g ⊢
          have S6 := backS l4 S5
          exact ⟨rfl, W4, acc, vs, o2, le.trans (le3.trans l4), S6, l4.r _ _ ra3, (l4.o _ _ ra3 rfl).trans ha3, (le3.trans l4).d.reps rs, by rw [hrest]; exact g⟩
        | true =>
          simp only [if_true, R.noex_ok, R.bind_ok] at g ⊢
          refine ⟨W4, env', o2, S5, ?_⟩
          cases ex' : x env' o2 with
          | bad => rw [ex'] at g; exact g.elim
          | ex c a o' => rw [ex'] at g; exact g.elim
          | ok y o3 =>
            rw [ex'] at g
            simp only [R.noex_ok, R.bind_ok] at g
            intro yv W5 H5 l5 S6 ry
            have S7 := backS (l4.trans l5) S6
            have ra5 := (l4.trans l5).r _ _ ra3
            have ha5 : H5 Dd = some (.lst vs) := ((l4.trans l5).o _ _ ra3 rfl).trans ha3
            split at g
            · rename_i hlt
              refine ⟨vs, ha5, by rw [rs.length]; exact hlt, rfl, W5, acc ++ [y], vs ++ [yv], o3, ?_, S7.grow (xs := vs) ra5, ra5, upd_same, ((le3.trans (l4.trans l5)).d.reps rs).append (Reps.one ry), by rw [hrest]; exact g⟩
              have l6 := le.trans (le3.trans (l4.trans l5))
              exact ⟨l6.r, fun p r e lo => by rw [upd_ne (fun z => by rw [z, hn] at e; cases e)]; exact l6.o p r e lo, l6.a⟩
            · exact g.elim
/-- the state behind a store in a comprehension's block: as it was ahead, at the block's end -/
theorem back_to {K : PySem.W.Frag} {CA : Str → Option Addr} {W3 W' : Wd} {H3 H' : Hp} {σ σ' : L2.St} {env env' : Env} {o o' : Obs} (S3 : SRel K CA W3 σ H3 env o) (l : W3.leE W' H3 H') (S' : SRel K CA W' σ' H' env' o') : SRel K CA W' σ H' env o' :=
  ⟨S'.h, S3.len, fun j s e => SlR.mono l.d (fun p z => ⟨l.r p _ z, l.o p _ z rfl⟩) (S3.sl j s e)⟩
theorem drop_cons {α : Type} {ds rest : List α} {d : α} {i : Nat} (hd : ds.drop i = d :: rest) : i < ds.length ∧ ds[i]? = some d ∧ ds.drop (i + 1) = rest := by
  refine ⟨?_, ?_, ?_⟩
  · apply Nat.lt_of_not_le
    intro q
    rw [List.drop_eq_nil_of_le q] at hd; cases hd
  · have := List.getElem?_drop (xs := ds) (i := i) (j := 0)
    rw [hd] at this; simpa using this.symm
  · have := List.drop_drop (i := 1) (j := i) (l := ds)
    rw [hd] at this; simpa [Nat.add_comm] using this.symm
theorem leE_grow {W W' : Wd} {H H' : Hp} {p : Addr} {o : HO} (l : W.leE W' H H') (hn : W.ρ p = none) : W.leE W' H (upd H' p o) :=
  ⟨l.r, fun q r e lo => by rw [upd_ne (fun z => by rw [z, hn] at e; cases e)]; exact l.o q r e lo, l.a⟩
/-- THE COMPREHENSION with two fors -/
theorem lc2_of {K : PySem.W.Frag} {CA : Str → Option Addr} {W0 : WX} {di di1 : Env → Obs → R (List D)} {t t1 : Env → Obs → R Bool} {x : Env → Obs → R D} {own vs1 : List Nat} {tg tg1 : Tg} {σ : L2.St} {H : Hp} {Q : V → Hp → Prop} (ht : ∀ i ∈ tg.sl, i ∈ own) (ht1 : ∀ i ∈ tg1.sl, i ∈ vs1)
    (h : LF K CA W0 (fun env o => (di env o).bind fun ds o => lc2D own vs1 tg t di1 tg1 t1 x env ds [] o) σ H Q) :
    tLc2 (LG K CA W0 (relI K CA) di) (gTg K tg) (LT K CA (fun _ _ _ _ => False) t) (LG K CA (fun _ _ _ _ => False) (relI K CA) di1) (gTg K tg1) (LT K CA (fun _ _ _ _ => False) t1) (LE K CA (fun _ _ _ _ => False) x) own vs1 σ H Q := by
  obtain ⟨W, env, obs, S, h⟩ := h
  refine LG.bnd earlyF S h fun ds o1 J W1 H1 l1 S1 wk h1 => ?_
  intro Dd hD
  have hn := S1.h.fresh hD
  let inv : Nat → Nat → Hp → Prop := fun i m H' => m = ds.length - i ∧ ∃ Wd acc vs o, W1.leE Wd H1 H' ∧ SRel K CA Wd σ H' env o ∧ Wd.ρ Dd = some .acc ∧ H' Dd = some (.lst vs) ∧ Wd.reps K vs acc ∧
    GP K CA W0 (relF K) W1 env σ H1 Q (lc2D own vs1 tg t di1 tg1 t1 x env (ds.drop i) acc o)
  refine ⟨inv, ⟨ds.length, by simp, W1.put Dd .acc, [], [], o1, leE_add hn, S1.add hD (fun u e => nomatch e) (fun u e => nomatch e), Wd.put_same, upd_same, .nil, by rw [List.drop_zero]; exact h1⟩, ?_⟩
  rintro i m H2 ⟨rfl, Wd, acc, vs, o, le, S2, ra, ha, rs, g⟩
  cases hd : ds.drop i with
  | nil =>
    rw [hd] at g
    have hlen : ds.length ≤ i := List.drop_eq_nil_iff.mp hd
    exact .inl ⟨wk.stop i Wd σ H2 env o le.s S2 hlen, g (.ref Dd) Wd H2 le S2 ⟨Dd, vs, rfl, hn, ra, ha, rs⟩⟩
  | cons d rest =>
    rw [hd] at g
    obtain ⟨hil, hdi, hrest⟩ := drop_cons hd
    obtain ⟨hgo, hy⟩ := wk.go i d Wd σ H2 env o le.s S2 hdi
    refine .inr ⟨hgo, fun H' => inv (i + 1) (ds.length - (i + 1)) H', fun H' q => ⟨ds.length - (i + 1), by omega, q⟩, fun v H3 y3 => ?_⟩
    obtain ⟨W3, le3, S3, rv⟩ := hy v H3 y3
    have ra3 : W3.ρ Dd = some .acc := le3.r _ _ ra
    have ha3 : H3 Dd = some (.lst vs) := (le3.o _ _ ra rfl).trans ha
    unfold lc2D at g
    cases es : setTg tg d (wipeE env own) with
    | none => rw [es] at g; exact g.elim
    | some env' =>
      rw [es] at g
      simp only at g
      refine tg_of (S3.wipe own) rv es fun σ' S4 sb => ?_
      have wp : L2.wipe σ' own = L2.wipe σ own := by rw [sb.wipe ht, wipe_wipe]
      refine ⟨wp, W3, env', o, S4, ?_⟩
      cases et : t env' o with
      | bad => rw [et] at g; exact g.elim
      | ex c a o' => rw [et] at g; exact g.elim
      | ok b o2 =>
        rw [et] at g
        intro b' W4 H4 l4 S5 hb
        have hb : b' = b := hb
        subst hb
        have ra4 := l4.r _ _ ra3
        have ha4 := (l4.o _ _ ra3 rfl).trans ha3
        cases b' with
        | false =>
          simp only [Bool.false_eq_true, if_false, R.noex_ok, R.bind_ok] at g ⊢
          exact ⟨rfl, W4, acc, vs, o2, le.trans (le3.trans l4), back_to S3 l4 S5, ra4, ha4, (le3.trans l4).d.reps rs, by rw [hrest]; exact g⟩
        | true =>
          simp only [if_true, R.noex_ok, R.bind_ok] at g ⊢
          refine ⟨W4, env', o2, S5, ?_⟩
          cases ei : di1 env' o2 with
          | bad => rw [ei] at g; exact g.elim
          | ex c a o' => rw [ei] at g; exact g.elim
          | ok es1 o3 =>
            rw [ei] at g
            simp only [R.noex_ok, R.bind_ok] at g
            intro J1 W5 H5 l5 S6 wk1
            have wk1 : Wlk K CA W5 J1 es1 := wk1
            have S5b := S6
            have ra5 := l5.r _ _ ra4
            have ha5 := (l5.o _ _ ra4 rfl).trans ha4
            have le5 : W1.leE W5 H1 H5 := le.trans (le3.trans (l4.trans l5))
            have n5 : W1.ρ Dd = none := hn
            -- the second loop's invariant
            let inv1 : Nat → Nat → Hp → Prop := fun j k H' => k = es1.length - j ∧ ∃ Wd2 acc vs o, W5.leS Wd2 ∧ W3.leE Wd2 H3 (fun p => if p = Dd then H3 Dd else H' p) ∧ W1.leE Wd2 H1 H' ∧ SRel K CA Wd2 σ' H' env' o ∧ Wd2.ρ Dd = some .acc ∧ H' Dd = some (.lst vs) ∧ Wd2.reps K vs acc ∧
              GP K CA W0 (relF K) W1 env σ H1 Q ((lcD vs1 tg1 t1 x env' (es1.drop j) acc o).bind fun acc o => lc2D own vs1 tg t di1 tg1 t1 x env rest acc o)
            have le35 : W3.leE W5 H3 H5 := l4.trans l5
            refine ⟨inv1, ⟨es1.length, by simp, W5, acc, vs, o3, .refl, ⟨le35.r, fun q r e lo => ?_, le35.a⟩, le5, S6, ra5, ha5, (le3.trans le35).d.reps rs, by rw [List.drop_zero]; exact g⟩, ?_⟩
            · split
              · rename_i hq; rw [hq]
              · exact le35.o q r e lo
            rintro j k H6 ⟨rfl, Wd2, acc2, vs2, o4, lS, lE3, lE1, S7, ra6, ha6, rs6, g6⟩
            cases hd1 : es1.drop j with
            | nil =>
              rw [hd1] at g6
              have hlen1 : es1.length ≤ j := List.drop_eq_nil_iff.mp hd1
              refine .inl ⟨wk1.stop j Wd2 σ' H6 env' o4 lS S7 hlen1, rfl, Wd2, acc2, vs2, o4, lE1, ?_, ra6, ha6, rs6, by rw [hrest]; exact g6⟩
              refine ⟨S7.h, S3.len, fun i s e => ?_⟩
              refine SlR.mono lE3.d (fun p z => ⟨lE3.r p _ z, ?_⟩) (S3.sl i s e)
              have := lE3.o p _ z rfl
              rw [if_neg (fun q => by rw [q, ra3] at z; cases z)] at this
              exact this
            | cons d1 rest1 =>
              rw [hd1] at g6
              obtain ⟨hil1, hdi1, hrest1⟩ := drop_cons hd1
              obtain ⟨hgo1, hy1⟩ := wk1.go j d1 Wd2 σ' H6 env' o4 lS S7 hdi1
              refine .inr ⟨hgo1, fun H' => inv1 (j + 1) (es1.length - (j + 1)) H', fun H' q => ⟨es1.length - (j + 1), by omega, q⟩, fun v1 H7 y7 => ?_⟩
              obtain ⟨W7, le7, S8, rv1⟩ := hy1 v1 H7 y7
              have ra7 : W7.ρ Dd = some .acc := le7.r _ _ ra6
              have ha7 : H7 Dd = some (.lst vs2) := (le7.o _ _ ra6 rfl).trans ha6
              have step3 : ∀ {W' : Mp.Wd} {H' : Hp}, Wd2.leE W' H6 H' → W3.leE W' H3 (fun p => if p = Dd then H3 Dd else H' p) := fun {W' H'} l => ⟨fun p r e => l.r p r (lE3.r p r e), fun q r e lo => by
                split
                · rename_i hq; rw [hq]
                · rename_i hq
                  have := lE3.o q r e lo
                  rw [if_neg hq] at this
                  exact (l.o q r (lE3.r q r e) lo).trans this, fun n p e => l.a n p (lE3.a n p e)⟩
              unfold lcD at g6
              cases es7 : setTg tg1 d1 (wipeE env' vs1) with
              | none => rw [es7] at g6; exact g6.elim
              | some env2 =>
                rw [es7] at g6
                simp only at g6
                refine tg_of (S8.wipe vs1) rv1 es7 fun σ2 S9 sb1 => ?_
                have wp1 : L2.wipe σ2 vs1 = L2.wipe σ' vs1 := by rw [sb1.wipe ht1, wipe_wipe]
                refine ⟨wp1, W7, env2, o4, S9, ?_⟩
                cases et1 : t1 env2 o4 with
                | bad => rw [et1] at g6; exact g6.elim
                | ex c a o' => rw [et1] at g6; exact g6.elim
                | ok b1 o5 =>
                  rw [et1] at g6
                  intro b2 W8 H8 l8 S10 hb1
                  have hb1 : b2 = b1 := hb1
                  subst hb1
                  have ra8 := l8.r _ _ ra7
                  have ha8 := (l8.o _ _ ra7 rfl).trans ha7
                  cases b2 with
                  | false =>
                    simp only [Bool.false_eq_true, if_false, R.noex_ok, R.bind_ok] at g6 ⊢
                    exact ⟨rfl, W8, acc2, vs2, o5, lS.trans (le7.trans l8).s, step3 (le7.trans l8), lE1.trans (le7.trans l8), back_to S8 l8 S10, ra8, ha8, (le7.trans l8).d.reps rs6, by rw [hrest1]; exact g6⟩
                  | true =>
                    simp only [if_true, R.noex_ok, R.bind_ok] at g6 ⊢
                    refine ⟨W8, env2, o5, S10, ?_⟩
                    cases ex' : x env2 o5 with
                    | bad => rw [ex'] at g6; exact g6.elim
                    | ex c a o' => rw [ex'] at g6; exact g6.elim
                    | ok y o6 =>
                      rw [ex'] at g6
                      simp only [R.noex_ok, R.bind_ok] at g6
                      intro yv W9 H9 l9 S11 ry
                      have S12 := back_to S8 (l8.trans l9) S11
                      have ra9 := (l8.trans l9).r _ _ ra7
                      have ha9 : H9 Dd = some (.lst vs2) := ((l8.trans l9).o _ _ ra7 rfl).trans ha7
                      have l10 := le7.trans (l8.trans l9)
                      split at g6
                      · rename_i hlt
                        refine ⟨vs2, ha9, by rw [rs6.length]; exact hlt, rfl, W9, acc2 ++ [y], vs2 ++ [yv], o6, lS.trans l10.s, ?_, leE_grow (lE1.trans l10) hn, S12.grow (xs := vs2) ra9, ra9, upd_same, (l10.d.reps rs6).append (Reps.one ry), by rw [hrest1]; exact g6⟩
                        have z := step3 l10
                        refine ⟨z.r, fun q r e lo => ?_, z.a⟩
                        have z2 := z.o q r e lo
                        by_cases hq : q = Dd
                        · rw [if_pos hq, hq]
                        · rw [if_neg hq] at z2 ⊢
                          rw [upd_ne hq]; exact z2
                      · exact g6.elim
end Mp

set_option Elab.async false
set_option linter.all false
set_option maxRecDepth 100000
/-! Expressions mean over data what they mean in the model. -/
namespace Mp
open PySem PySem.Spec PyProof.Rows L2

/-! ### a list of one's own lent -/
section
variable {K : PySem.W.Frag} {F F' : Hp} {A : List Addr}
mutual
theorem Rep.noL (h : ∀ p o, F p = some o → (∀ xs, o ≠ .lst xs) → (∀ ks, o ≠ .dK ks) → F' p = some o) : ∀ {v : V} {d : D}, Rep K F A v d → noL d = true → Rep K F' A v d
  | _, _, .non, _ => .non
  | _, _, .bl b, _ => .bl b
  | _, _, .int i, _ => .int i
  | _, _, .str x, _ => .str x
  | _, _, .ty n, _ => .ty n
  | _, _, .tup q r, e => by
    refine .tup ?_ (Reps.noL h r (by simpa [Mp.noL] using e))
    rcases q with (q | ⟨o, q⟩) | q
    · exact .inl (.inl (h _ _ q (by simp) (by simp)))
    · exact .inl (.inr ⟨o, h _ _ q (by simp) (by simp)⟩)
    · exact .inr q
  | _, _, .lst _ _, e => by simp [Mp.noL] at e
  | _, _, .loc _, e => by simp [Mp.noL] at e
  | _, _, .dic _ _ _, e => by simp [Mp.noL] at e
  | _, _, .obj q, _ => .obj q
theorem Reps.noL (h : ∀ p o, F p = some o → (∀ xs, o ≠ .lst xs) → (∀ ks, o ≠ .dK ks) → F' p = some o) : ∀ {vs : List V} {ds : List D}, Reps K F A vs ds → noLs ds = true → Reps K F' A vs ds
  | _, _, .nil, _ => .nil
  | _, _, .cons a b, e => by
    simp only [Mp.noLs, Bool.and_eq_true] at e
    exact .cons (Rep.noL h a e.1) (Reps.noL h b e.2)
end
end

section
variable {K : PySem.W.Frag} {CA : Str → Option Addr} {W0 : WX} {α β : Type} {rel : Rl α β}
theorem bor_of {f : Env → Obs → R α} {i : Nat} {ok : α → Bool} {σ : L2.St} {H : Hp} {Q : β → Hp → Prop}
    (hrel : ∀ (W W1 W' W2 : Wd) (H' : Hp) (v : β) (d : α), rel W1 W' H' v d → ok d = true → (∀ p o, W'.F p = some o → (∀ xs, o ≠ .lst xs) → (∀ ks, o ≠ .dK ks) → W2.F p = some o) → W2.A = W'.A → rel W W2 H' v d)
    (h : LG K CA W0 rel (fun env o => match env[i]? with
      | some (.ol ds) => (f (env.set i (.v (.lst ds))) o).noex.bind fun d o => if ok d && o.all noLO then .ok d o else .bad
      | _ => .bad) σ H Q) : LG K CA W0 rel f σ H Q := by
  obtain ⟨W, env, obs, S, h⟩ := h
  cases he : env[i]? with
  | none => simp only [he] at h; exact h.elim
  | some s =>
    cases s with
    | un => simp only [he] at h; exact h.elim
    | v d => simp only [he] at h; exact h.elim
    | od d => simp only [he] at h; exact h.elim
    | ol ds =>
      simp only [he] at h
      obtain ⟨p, vs, hσ, hr, hp, rs⟩ := S.getL he
      have hi : i < env.length := (List.getElem?_eq_some_iff.mp he).1
      -- the slot forgotten, the list frozen, the slot set again
      have S0 : SRel K CA W σ H (env.set i .un) obs := S.weak (by simp [S.len]) fun j s e => by
        by_cases hj : i = j
        · subst hj; rw [List.getElem?_set_self hi] at e; exact .inl (Option.some.inj e).symm
        · rw [List.getElem?_set_ne hj] at e; exact .inr ⟨e, rfl⟩
      have S1 : SRel K CA (W.put p (.fro (.lst vs))) σ H (env.set i .un) obs := by
        refine S0.turn hr rfl (fun j s e z => ?_) (fun u e => by injection e with e; rw [← e]; exact hp) (fun u e => nomatch e)
        have hj : i = j := by injection e
        subst hj
        rw [List.getElem?_set_self hi] at z
        exact .inr (Option.some.inj z).symm
      have ls := leS_turn (r := .fro (.lst vs)) hr rfl
      have S2 : SRel K CA (W.put p (.fro (.lst vs))) σ H (env.set i (.v (.lst ds))) obs := by
        have := S1.set (i := i) (v := .ref p) (s := .v (.lst ds)) ⟨_, rfl, .lst (Wd.F_of.mpr Wd.put_same) (ls.d.reps rs)⟩
        rw [List.set_set] at this
        have e : σ.set i (some (.ref p)) = σ := by
          apply List.ext_getElem?
          intro j
          by_cases hj : i = j
          · subst hj; rw [List.getElem?_set_self (by rw [S.len]; exact hi), hσ]
          · rw [List.getElem?_set_ne hj]
        rw [e] at this; exact this
      refine ⟨_, _, _, S2, ?_⟩
      cases hf : f (env.set i (.v (.lst ds))) obs with
      | bad => rw [hf] at h; exact h.elim
      | ex c a o => rw [hf] at h; exact h.elim
      | ok d o =>
        rw [hf] at h
        simp only [R.noex_ok, R.bind_ok] at h
        split at h
        · rename_i hk
          rw [Bool.and_eq_true] at hk
          intro v W' H' le S' rv
          have hp' : W'.ρ p = some (.fro (.lst vs)) := le.r p _ Wd.put_same
          have hF : ∀ q u, W'.F q = some u → (∀ xs, u ≠ .lst xs) → (∀ ks, u ≠ .dK ks) → (W'.put p (.own i)).F q = some u := fun q u e n _ => by
            have hq : q ≠ p := fun z => by
              subst z
              rw [Wd.F_of.mpr hp'] at e; cases e; exact n vs rfl
            rw [Wd.F_of] at e ⊢
            rw [Wd.put_ne hq]; exact e
          have le2 : W.leE (W'.put p (.own i)) H H' := by
            refine ⟨fun q r e => ?_, fun q r e l => ?_, fun n q e => le.a n q e⟩
            · by_cases hq : q = p
              · subst hq; rw [hr] at e; cases e; exact Wd.put_same
              · rw [Wd.put_ne hq]; exact le.r q r (by rw [Wd.put_ne hq]; exact e)
            · by_cases hq : q = p
              · subst hq; rw [S'.h.fro q _ hp']; exact hp.symm
              · exact le.o q r (by rw [Wd.put_ne hq]; exact e) l
          have lp : ∀ q r, W'.ρ q = some r → q ≠ p → (W'.put p (.own i)).ρ q = some r := fun q r e hq => by rw [Wd.put_ne hq]; exact e
          refine h v (W'.put p (.own i)) H' le2 ⟨⟨fun q u e => ?_, fun q u e => ?_, fun q u e => ?_, S'.h.len, fun n ob e => ?_⟩, S.len, fun j s e => ?_⟩ (hrel W _ W' _ H' v d rv hk.1 hF rfl)
          · by_cases hq : q = p
            · subst hq; rw [Wd.put_same] at e; cases e
            · rw [Wd.put_ne hq] at e; exact S'.h.fro q u e
          · by_cases hq : q = p
            · subst hq; rw [Wd.put_same] at e; cases e
            · rw [Wd.put_ne hq] at e; exact S'.h.keep q u e
          · by_cases hq : q = p
            · subst hq; exact S'.h.live _ _ hp'
            · rw [Wd.put_ne hq] at e; exact S'.h.live q u e
          · obtain ⟨q, a1, a2, a3⟩ := S'.h.obs n ob e
            have hob : noLO ob = true := by
              have := List.all_eq_true.mp hk.2 ob (List.mem_of_getElem? e)
              exact this
            refine ⟨q, a1, lp q _ a2 (fun z => by rw [z, hp'] at a2; cases a2), ?_⟩
            cases ob with
            | ins c fs =>
              obtain ⟨C, dx, us, e1, e2, e3, e4, e5, e6⟩ := a3
              exact ⟨C, dx, us, e1, e2, lp dx _ e3 (fun z => by rw [z, hp'] at e3; cases e3), e4, e5, Reps.noL hF e6 hob⟩
            | ls fs =>
              obtain ⟨us, e2, e6⟩ := a3
              exact ⟨us, e2, Reps.noL hF e6 hob⟩
            | dk ks =>
              obtain ⟨us, e2, e3, e6⟩ := a3
              exact ⟨us, e2, e3, Reps.noL hF e6 hob⟩
          · exact SlR.mono le2.d (fun q z => ⟨le2.r q _ z, le2.o q _ z rfl⟩) (S.sl j s e)
        · exact h.elim
end

/-! ### built-in functions by their names -/
section
variable {X : Cx} {CA : Str → Option Addr}
theorem biB_ok (hc : X.calm = true) : ∀ f ∈ biB, ∃ r, CallR X (.builtin f) r ∧ Op1 X.K CA r (biD f) := by
  intro f hf
  simp only [biB, List.mem_cons, List.not_mem_nil, or_false] at hf
  rcases hf with rfl | rfl | rfl | rfl | rfl | rfl | rfl | rfl
  · exact len_ok
  · exact abs_ok
  · exact sum_ok hc
  · exact all_ok hc
  · exact any_ok hc
  · exact max_ok hc
  · exact min_ok hc
  · exact sorted_ok
theorem biT_ok : ∀ f ∈ biT, ∃ r, CallR X (.type f) r ∧ Op1 X.K CA r (biD f) := by
  intro f hf
  simp only [biT, List.mem_cons, List.not_mem_nil, or_false] at hf
  rcases hf with rfl | rfl | rfl | rfl
  · exact int_ok
  · exact str_ok
  · exact tuple_ok
  · exact list_ok
theorem boot_B : ∀ f ∈ biB, bootBuiltins (Str.ofString f) = some (.builtin f) ∧ Str.ofString f ≠ "__name__" ∧ ((Str.ofString f) == ("__debug__" : Str)) = false := by decide +kernel
theorem boot_T : ∀ f ∈ biT, bootBuiltins (Str.ofString f) = some (.type f) ∧ Str.ofString f ≠ "__name__" ∧ ((Str.ofString f) == ("__debug__" : Str)) = false := by decide +kernel
theorem boot_isi : ∀ f ∈ isiTs, bootBuiltins (Str.ofString f) = some (.type f) ∧ Str.ofString f ≠ "__name__" ∧ ((Str.ofString f) == ("__debug__" : Str)) = false := by decide +kernel
theorem boot_set : bootBuiltins ("set" : Str) = some (.type "set") := by decide +kernel
theorem boot_isin : bootBuiltins ("isinstance" : Str) = some (.builtin "isinstance") := by decide +kernel
end
theorem pt_ifE {X : Cx} {c a b : Expr} {pos : Pos} {tc ta tb : TT} (hc : PT X c tc) (ha : PT X a ta) (hb : PT X b tb) : PT X (.IfExp c a b pos) (fun σ H Q => tc σ H fun k H1 => if k = true then ta σ H1 Q else tb σ H1 Q) := by
  refine ⟨fun pins s σ H Q I h => ?_⟩
  show wpAny _ _ (do if ← isTrue c X.env (eval c X.env) then isTrue a X.env (eval a X.env) else isTrue b X.env (eval b X.env)) _ _ s
  refine wpAny_bind (thn (hc.run pins s σ H _ I h) fun d s1 ⟨H1, I1, q1⟩ => ?_)
  cases d with
  | true => exact ha.run pins s1 σ H1 Q I1 q1
  | false => exact hb.run pins s1 σ H1 Q I1 q1
/-- a test that is an expression's truth -/
def isPlainT : Expr → Bool
  | .UnaryOp .Not _ _ => false | .BoolOp _ _ _ => false | .IfExp _ _ _ _ => false | .Compare _ _ _ _ => false | _ => true
theorem plainT_ok {e : Expr} {env : PySem.Env} (h : isPlainT e = true) : ∀ whole, isTrue e env whole = (do let v ← whole; standAt e.pos; holding [v] (truthy v)) := fun whole => by
  cases e with
  | UnaryOp op a pos => cases op <;> first | rfl | (simp [isPlainT] at h)
  | BoolOp _ _ _ => simp [isPlainT] at h
  | IfExp _ _ _ _ => simp [isPlainT] at h
  | Compare _ _ _ _ => simp [isPlainT] at h
  | _ => rfl
theorem chk_star {fs bs N : List Str} {sc : Scope} : ∀ {es : Es} {es' : List Expr}, chkEs fs bs N sc es es' = true → ∀ e ∈ es', isStar e = false
  | .nil, [], _ => fun _ h => nomatch h
  | .nil, _ :: _, h => by simp [chkEs] at h
  | .cons _ _, [], h => by simp [chkEs] at h
  | .cons e r, e' :: r', h => fun x hx => by
    simp only [chkEs, Bool.and_eq_true, Bool.not_eq_true'] at h
    rcases List.mem_cons.mp hx with rfl | hx
    · exact h.1.2
    · exact chk_star h.2 x hx
theorem plain_of {env : PySem.Env} {pos : Pos} : ∀ {es : List Expr}, (∀ e ∈ es, isStar e = false) → (backTo pos (starEach es env)).any (·.1) = false
  | [], _ => rfl
  | e :: es, h => by
    rw [star_ok (h e List.mem_cons_self)]
    show (false || (backTo pos (starEach es env)).any (·.1)) = false
    rw [Bool.false_or]
    exact plain_of fun x hx => h x (List.mem_cons_of_mem _ hx)
end Mp

set_option Elab.async false
set_option linter.all false
set_option maxRecDepth 100000
set_option maxHeartbeats 4000000
/-! THE THEOREM for expressions. -/
namespace Mp
open PySem PySem.Spec PyProof.Rows L2


/-- data made once is data -/
theorem lf_of {K : PySem.W.Frag} {CA : Str → Option Addr} {W0 : WX} {f : Env → Obs → R (List D)} {σ : L2.St} {H : Hp} {Q : V → Hp → Prop} (h : LE K CA W0 (fun env o => (f env o).map .lst) σ H Q) : LF K CA W0 f σ H Q := by
  obtain ⟨W, env, obs, S, g⟩ := h
  refine ⟨W, env, obs, S, ?_⟩
  cases e : f env obs with
  | bad => simp only [e] at g; exact g.elim
  | ex c a o => simp only [e] at g; exact g
  | ok ds o =>
    simp only [e] at g
    rintro v W' H' l S' ⟨p, vs, rfl, n, ra, hp, rs⟩
    have ls := leS_turn (r := .fro (.lst vs)) ra rfl
    refine g (.ref p) (W'.put p (.fro (.lst vs))) H' ⟨fun q r e => ?_, l.o, l.a⟩ (S'.turn ra rfl (fun i s z => nomatch z) (fun u z => by injection z with z; rw [← z]; exact hp) (fun u z => nomatch z)) (.lst (Wd.F_of.mpr Wd.put_same) (ls.d.reps rs))
    have hq : q ≠ p := fun z => by rw [z, n] at e; cases e
    rw [Wd.put_ne hq]; exact l.r q r e
theorem nm1_own {sc : Scope} {N : List Str} {own : List Nat} {i : Nat} {e : Expr} (h : chkNm1 sc N own i e = true) : i ∈ own := by
  cases e with
  | Name x pos =>
    simp only [chkNm1, Bool.and_eq_true] at h
    simpa using h.2
  | _ => simp [chkNm1] at h
theorem nm2_own {sc : Scope} {N : List Str} {own : List Nat} : ∀ {ts : List Nat} {es : List Expr}, chkNm2 sc N own ts es = true → ∀ i ∈ ts, i ∈ own
  | [], _, _ => by simp
  | _ :: _, [], h => by simp [chkNm2] at h
  | t :: ts, e :: es, h => by
    simp only [chkNm2, Bool.and_eq_true] at h
    intro i hi
    rcases List.mem_cons.mp hi with rfl | hi
    · exact nm1_own h.1
    · exact nm2_own h.2 i hi
theorem t1_own {sc : Scope} {N : List Str} {own : List Nat} {t : Nat ⊕ List Nat} {e : Expr} (h : chkT1 sc N own t e = true) : ∀ i ∈ slT1 t, i ∈ own := by
  cases t with
  | inl i =>
    intro j hj
    simp only [slT1, List.mem_singleton] at hj
    subst hj; exact nm1_own (by simpa only [chkT1] using h)
  | inr ts =>
    cases e with
    | Tuple es k pos => exact nm2_own (ts := ts) (by simpa only [chkT1] using h)
    | _ => simp [chkT1] at h
theorem tt_own {sc : Scope} {N : List Str} {own : List Nat} : ∀ {ts : List (Nat ⊕ List Nat)} {es : List Expr}, chkTt sc N own ts es = true → ∀ i ∈ slTt ts, i ∈ own
  | [], _, _ => by simp [slTt]
  | _ :: _, [], h => by simp [chkTt] at h
  | t :: ts, e :: es, h => by
    simp only [chkTt, Bool.and_eq_true] at h
    intro i hi
    rcases List.mem_append.mp hi with hi | hi
    · exact t1_own h.1 i hi
    · exact tt_own h.2 i hi
theorem chkTg_own {sc : Scope} {N : List Str} {own : List Nat} {tg : Tg} {e : Expr} (h : chkTg sc N own tg e = true) : ∀ i ∈ tg.sl, i ∈ own := by
  cases tg with
  | nm i =>
    intro j hj
    simp only [Tg.sl, List.mem_singleton] at hj
    subst hj; exact nm1_own (by simpa only [chkTg] using h)
  | tp ts =>
    cases e with
    | Tuple es k pos => exact nm2_own (ts := ts) (by simpa only [chkTg] using h)
    | _ => simp [chkTg] at h
  | tt ts =>
    cases e with
    | Tuple es k pos => exact tt_own (ts := ts) (by simpa only [chkTg] using h)
    | _ => simp [chkTg] at h
theorem chkI_set {fs bs N : List Str} {sc : Scope} {it : It} {tg e : Expr} (h : chkI fs bs N sc it tg e = true) : isSet e = false := by
  cases it with
  | sq a => simp only [chkI, Bool.and_eq_true, Bool.not_eq_true'] at h; exact h.2
  | r1 a => cases e <;> first | rfl | (simp [chkI] at h)
  | r2 a b => cases e <;> first | rfl | (simp [chkI] at h)
  | r3 a b c => cases e <;> first | rfl | (simp [chkI] at h)
  | en a => cases e <;> first | rfl | (cases tg <;> simp [chkI] at h)
theorem R.bind_assoc {α β γ : Type} (x : R α) (f : α → Obs → R β) (g : β → Obs → R γ) : (x.bind f).bind g = x.bind fun a o => (f a o).bind g := by
  cases x <;> rfl
/-- as LG.bnd, the run's value told -/
theorem LG.bnd' {K : PySem.W.Frag} {CA : Str → Option Addr} {W0 : WX} {W : Wd} {H : Hp} {obs : Obs} {env : Env} {σ : L2.St} {α β γ δ : Type} {rel : Rl α β} {rel2 : Rl γ δ} {Q : δ → Hp → Prop} {T : β → Hp → Prop} {fa : Env → Obs → R α} {k : α → Obs → R γ} (er : rel2.Early) (S : SRel K CA W σ H env obs) (h : GP K CA W0 rel2 W env σ H Q ((fa env obs).bind k))
    (kk : ∀ a o1 v W1 H1, fa env obs = .ok a o1 → W.leE W1 H H1 → SRel K CA W1 σ H1 env o1 → rel W W1 H1 v a → GP K CA W0 rel2 W1 env σ H1 Q (k a o1) → T v H1) : LG K CA W0 rel fa σ H T := by
  refine ⟨W, env, obs, S, ?_⟩
  cases e : fa env obs with
  | ok a o => exact fun v W' H' l S' r => kk a o v W' H' e l S' r (GP.mono er l (by rw [e] at h; exact h))
  | ex c a o => rw [e] at h; exact h
  | bad => rw [e] at h; exact h
theorem one_of {X : Cx} {CA : Str → Option Addr} {W0 : WX} {f : Env → Obs → R D} {σ : L2.St} {H : Hp} {T : List V → Hp → Prop}
    (h : LE X.K CA W0 f σ H fun v H1 => T [v] H1) : tCons (LE X.K CA W0 f) tNil σ H T := h

section
variable {CA : Str → Option Addr} {fs bs N : List Str} {G : Str → Option D} {Φ : Str → List D → Obs → R D} {n : Nat}

theorem gt_of_opt {K : PySem.W.Frag} {W0 : WX} {W : Wd} {σ : L2.St} {H : Hp} {env : Env} {obs : Obs} {Q : Bool → Hp → Prop} {o : Option Bool} (S : SRel K CA W σ H env obs) (h : GP K CA W0 relT W env σ H Q (R.opt obs o)) : ∃ b, o = some b ∧ Q b H := by
  cases o with
  | none => exact h.elim
  | some b => exact ⟨b, rfl, h b W H .refl S rfl⟩

theorem lsO_some {o : Obs} {x : D} {ds : List D} (h : lsO o x = some ds) : ∃ n, x = .obj n ∧ o[n]? = some (.ls ds) := by
  cases x with
  | obj n =>
    refine ⟨n, rfl, ?_⟩
    simp only [lsO] at h
    split at h
    · cases h; assumption
    · cases h
  | _ => cases h
/-- a new list that many may hold -/
theorem GP.onew {K : PySem.W.Frag} {W0 : WX} {W : Wd} {σ : L2.St} {H : Hp} {env : Env} {obs : Obs} {Q : V → Hp → Prop} {ds : List D} {vs : List V} (S : SRel K CA W σ H env obs) (q : GP K CA W0 (relE K) W env σ H Q (.ok (.obj obs.length) (obs ++ [.ls ds]))) (r : W.reps K vs ds) :
    ∀ p, H p = none → Q (.ref p) (upd H p (.lst vs)) := fun p hp => by
  obtain ⟨W', l, S', hA⟩ := S.onew (o := .lst vs) (ob := .ls ds) hp fun W' d _ => ⟨vs, upd_same, d.reps r⟩
  exact q _ W' _ l S' (.obj hA)
mutual
theorem soundE : ∀ (m : E) {X : Cx} {sc : Scope} {W0 : WX} {e : Expr}, Ctx CA fs bs N G Φ n sc X → Takes X W0 → chkE fs bs N sc m e = true → PE X e (LE X.K CA W0 (denE Φ G m))
  | .lit d, X, sc, W0, e, c, tk, h => by
    have fin : ∀ {v : V}, (∀ W : Wd, W.rep X.K v d) → ∀ σ H Q, LE X.K CA W0 (denE Φ G (.lit d)) σ H Q → Q v H := fun {v} r σ H Q ⟨W, env, obs, S, h⟩ => (show GP X.K CA W0 (relE X.K) W env σ H Q (.ok d obs) from h) v W H .refl S (r W)
    cases e with
    | Constant k j pos =>
      cases d with
      | non => cases k with
        | none => exact PE.weak pe_non (fin fun _ => .non)
        | _ => simp [chkE] at h
      | bl b => cases k with
        | bool b' =>
          have : b = b' := by simpa [chkE] using h
          subst this
          exact PE.weak pe_bl (fin fun _ => .bl _)
        | _ => simp [chkE] at h
      | int b => cases k with
        | int b' =>
          have : b = b' := by simpa [chkE] using h
          subst this
          exact PE.weak pe_int (fin fun _ => .int _)
        | _ => simp [chkE] at h
      | str b => cases k with
        | str b' =>
          have : b = b' := by simpa [chkE] using h
          subst this
          exact PE.weak pe_str (fin fun _ => .str _)
        | _ => simp [chkE] at h
      | _ => simp [chkE] at h
    | _ => cases d <;> simp [chkE] at h
  | .var i, X, sc, W0, e, c, tk, h => by
    cases e with
    | Name x pos =>
      simp only [chkE, Bool.and_eq_true, decide_eq_true_eq, Bool.not_eq_true'] at h
      obtain ⟨⟨⟨h1, h2⟩, h3⟩, h4⟩ := h
      refine PE.weak (pe_var (i := i) (by rw [c.hN]; exact h1) (by rw [c.hsc]; exact visB_ok h2) h3 h4) ?_
      rintro σ H Q ⟨W, env, obs, S, g⟩
      obtain ⟨d, e, q⟩ := GP.opt g
      unfold getD' at e
      cases he : env[i]? with
      | none => rw [he] at e; cases e
      | some s =>
        rw [he] at e
        cases s with
        | v d' =>
          cases e
          obtain ⟨v, a, b⟩ := S.get he
          exact ⟨v, a, q v W H .refl S b⟩
        | _ => cases e
    | _ => simp [chkE] at h
  | .glob y, X, sc, W0, e, c, tk, h => by
    cases e with
    | Name x pos =>
      simp only [chkE, Bool.and_eq_true, Bool.not_eq_true', beq_iff_eq] at h
      obtain ⟨⟨h1, h2⟩, h3⟩ := h
      subst h1
      refine ⟨fun pins s σ H Q I ⟨W, env, obs, S, g⟩ => ?_⟩
      obtain ⟨d, e, q⟩ := GP.opt g
      obtain ⟨u, v, hm, rv, rd⟩ := c.mo.gl y d e
      exact (pe_glob (glB_ok c.hsc h2) hm rv h3).run pins s σ H Q I (q v W H .refl S (Rep.mono (fun _ _ z => by cases z) (fun n p z => by simp at z) rd))
    | _ => simp [chkE] at h
  | .bin op a b, X, sc, W0, e, c, tk, h => by
    cases e with
    | BinOp a' op' b' pos =>
      simp only [chkE, Bool.and_eq_true, decide_eq_true_eq] at h
      obtain ⟨⟨rfl, h1⟩, h2⟩ := h
      obtain ⟨r, hr, hop⟩ := bin_ok (X := X) (CA := CA) op
      refine PE.weak (pe_op hr (soundE a c tk h1) (soundE b c tk h2)) ?_
      rintro σ H Q ⟨W, env, obs, S, g⟩
      refine LG.bnd earlyE S g fun x o1 v W1 H1 l1 S1 r1 g1 => ?_
      refine LG.bnd earlyE S1 g1 fun y o2 u W2 H2 l2 S2 r2 g2 => ?_
      obtain ⟨d, e, q⟩ := GP.opt g2
      exact hop W2 σ H2 env o2 v u x y d Q S2 (l2.d.rep r1) r2 e q
    | _ => simp [chkE] at h
  | .cmp op a b, X, sc, W0, e, c, tk, h => by
    cases e with
    | Compare a' ops bs' pos =>
      unfold chkE at h
      split at h
      · simp only [Bool.and_eq_true, decide_eq_true_eq, Bool.not_eq_true'] at h
        obtain ⟨⟨⟨rfl, h1⟩, h2⟩, h3⟩ := h
        obtain ⟨r, hr, hop⟩ := cmp_ok (X := X) (CA := CA) (by have := c.room.un; omega) op
        refine PE.weak (pe_cmpR hr (soundE a c tk h1) (soundE b c tk h2) (behind_ok h3)) ?_
        rintro σ H Q ⟨W, env, obs, S, g⟩
        refine LG.bnd earlyE S g fun x o1 v W1 H1 l1 S1 r1 g1 => ?_
        refine LG.bnd earlyE S1 g1 fun y o2 u W2 H2 l2 S2 r2 g2 => ?_
        obtain ⟨d, e, q⟩ := GP.opt g2
        rw [Option.map_eq_some_iff] at e
        obtain ⟨k, e, rfl⟩ := e
        exact hop W2 σ H2 env o2 v u x y k Q S2 (l2.d.rep r1) r2 e (q _ W2 H2 .refl S2 (.bl k))
      · cases h
    | _ => simp [chkE] at h
  | .chn o1 o2 a b d, X, sc, W0, e, c, tk, h => by
    cases e with
    | Compare a' ops bs' pos =>
      unfold chkE at h
      split at h
      · simp only [Bool.and_eq_true, decide_eq_true_eq, Bool.not_eq_true'] at h
        obtain ⟨⟨⟨⟨⟨rfl, rfl⟩, h1⟩, h2⟩, h3⟩, h4⟩ := h
        obtain ⟨r, hr, hop⟩ := cmp_ok (X := X) (CA := CA) (by have := c.room.un; omega) o1
        obtain ⟨r', hr', hop'⟩ := cmp_ok (X := X) (CA := CA) (by have := c.room.un; omega) o2
        refine PE.weak (pe_chain hr hr' (soundE a c tk h1) (soundE b c tk h2) (soundE d c tk h3) (by unfold lastMarks; exact behind_ok h4)) ?_
        rintro σ H Q ⟨W, env, obs, S, g⟩
        refine LG.bnd earlyE S g fun x oo1 v W1 H1 l1 S1 r1 g1 => ?_
        refine LG.bnd earlyE S1 g1 fun y oo2 u W2 H2 l2 S2 r2 g2 => ?_
        cases hc : cmpD o1 x y with
        | none => rw [hc] at g2; exact g2.elim
        | some k =>
          rw [hc] at g2
          refine hop W2 σ H2 env oo2 v u x y k _ S2 (l2.d.rep r1) r2 hc ⟨k, rfl, ?_⟩
          cases k with
          | false => exact g2 _ W2 H2 .refl S2 (.bl false)
          | true =>
            refine LG.bnd earlyE S2 g2 fun z oo3 w W3 H3 l3 S3 r3 g3 => ?_
            obtain ⟨d, e, q⟩ := GP.opt g3
            rw [Option.map_eq_some_iff] at e
            obtain ⟨k, e, rfl⟩ := e
            exact hop' W3 σ H3 env oo3 u w y z k Q S3 (l3.d.rep r2) r3 e (q _ W3 H3 .refl S3 (.bl k))
      · cases h
    | _ => simp [chkE] at h
  | .not a, X, sc, W0, e, c, tk, h => by
    cases e with
    | UnaryOp op a' pos =>
      cases op with
      | Not =>
        refine PE.weak (pe_not (soundE a c tk (by simpa [chkE] using h))) ?_
        rintro σ H Q ⟨W, env, obs, S, g⟩
        refine LG.bnd earlyE S g fun x o1 v W1 H1 l1 S1 r1 g1 => ?_
        cases x with
        | bl b => cases r1; exact ⟨b, rfl, g1 _ W1 H1 .refl S1 (.bl _)⟩
        | _ => exact g1.elim
      | _ => simp [chkE] at h
    | _ => simp [chkE] at h
  | .neg a, X, sc, W0, e, c, tk, h => by
    cases e with
    | UnaryOp op a' pos =>
      cases op with
      | USub =>
        refine PE.weak (pe_un un_neg (soundE a c tk (by simpa [chkE] using h))) ?_
        rintro σ H Q ⟨W, env, obs, S, g⟩
        refine LG.bnd earlyE S g fun x o1 v W1 H1 l1 S1 r1 g1 => ?_
        cases x with
        | int b => cases r1; exact ⟨b, rfl, g1 _ W1 H1 .refl S1 (.int _)⟩
        | _ => exact g1.elim
      | _ => simp [chkE] at h
    | _ => simp [chkE] at h
  | .con es, X, sc, W0, e, c, tk, h => by
    cases e with
    | BoolOp op es' pos =>
      cases op with
      | And => exact soundCon es c tk (by simpa [chkE] using h)
      | _ => simp [chkE] at h
    | _ => simp [chkE] at h
  | .dis es, X, sc, W0, e, c, tk, h => by
    cases e with
    | BoolOp op es' pos =>
      cases op with
      | Or => exact soundDis es c tk (by simpa [chkE] using h)
      | _ => simp [chkE] at h
    | _ => simp [chkE] at h
  | .ife k a b, X, sc, W0, e, c, tk, h => by
    cases e with
    | IfExp k' a' b' pos =>
      simp only [chkE, Bool.and_eq_true] at h
      obtain ⟨⟨h1, h2⟩, h3⟩ := h
      refine PE.weak (pe_ifExp (soundT k c tk h1) (soundE a c tk h2) (soundE b c tk h3)) ?_
      rintro σ H Q ⟨W, env, obs, S, g⟩
      refine LG.bnd earlyE S g fun x o1 v W1 H1 l1 S1 r1 g1 => ?_
      have r1 : v = x := r1
      subst r1
      cases v with
      | true => exact ⟨W1, env, o1, S1, g1⟩
      | false => exact ⟨W1, env, o1, S1, g1⟩
    | _ => simp [chkE] at h
  | .tup es, X, sc, W0, e, c, tk, h => by
    cases e with
    | Tuple es' k pos =>
      refine PE.weak (pe_tup (soundEs es c tk (by simpa [chkE] using h))) ?_
      rintro σ H Q ⟨W, env, obs, S, g⟩
      refine LG.bnd earlyE S g fun ds o1 vs W1 H1 l1 S1 r1 g1 => ?_
      split at g1
      · rename_i hl
        have r1 : W1.reps X.K vs ds := r1
        exact ⟨by rw [r1.length]; exact hl, GP.tup S1 g1 r1⟩
      · exact g1.elim
    | _ => simp [chkE] at h
  | .lst es, X, sc, W0, e, c, tk, h => by
    cases e with
    | List es' pos =>
      refine PE.weak (pe_lst (soundEs es c tk (by simpa [chkE] using h))) ?_
      rintro σ H Q ⟨W, env, obs, S, g⟩
      refine LG.bnd earlyE S g fun ds o1 vs W1 H1 l1 S1 r1 g1 => ?_
      split at g1
      · rename_i hl
        have r1 : W1.reps X.K vs ds := r1
        exact ⟨by rw [r1.length]; exact hl, GP.lst S1 g1 r1⟩
      · exact g1.elim
    | _ => simp [chkE] at h
  | .ix a b, X, sc, W0, e, c, tk, h => by
    cases e with
    | Subscript a' b' pos =>
      simp only [chkE, Bool.and_eq_true, Bool.not_eq_true'] at h
      obtain ⟨⟨h1, h2⟩, h3⟩ := h
      obtain ⟨r, hr, hop⟩ := ix_ok (X := X) (CA := CA)
      refine PE.weak (pe_ix hr (soundE a c tk h1) (soundE b c tk h2) (plainIx_ok h3)) ?_
      rintro σ H Q ⟨W, env, obs, S, g⟩
      refine LG.bnd earlyE S g fun x o1 v W1 H1 l1 S1 r1 g1 => ?_
      refine LG.bnd earlyE S1 g1 fun y o2 u W2 H2 l2 S2 r2 g2 => ?_
      obtain ⟨d, e, q⟩ := GP.opt g2
      exact hop W2 σ H2 env o2 v u x y d Q S2 (l2.d.rep r1) r2 e q
    | _ => simp [chkE] at h
  | .sl a lo hi, X, sc, W0, e, c, tk, h => by
    cases e with
    | Subscript a' b' pos =>
      cases b' with
      | Slice lo' hi' st pos2 =>
        cases st with
        | none =>
          simp only [chkE, Bool.and_eq_true] at h
          obtain ⟨⟨h1, h2⟩, h3⟩ := h
          obtain ⟨r, hr, hop⟩ := sl_ok (X := X) (CA := CA)
          refine PE.weak (pe_slice hr (soundE a c tk h1) (soundO lo c tk h2) (soundO hi c tk h3)) ?_
          rintro σ H Q ⟨W, env, obs, S, g⟩
          refine LG.bnd earlyE S g fun x o1 v W1 H1 l1 S1 r1 g1 => ?_
          refine LG.bnd earlyE S1 g1 fun y o2 u W2 H2 l2 S2 r2 g2 => ?_
          refine LG.bnd earlyE S2 g2 fun z o3 w W3 H3 l3 S3 r3 g3 => ?_
          have r2 : u = y := r2
          have r3 : w = z := r3
          subst r2; subst r3
          obtain ⟨d, e, q⟩ := GP.opt g3
          exact hop W3 σ H3 env o3 v x d u w Q S3 ((l2.trans l3).d.rep r1) e q
        | some _ => simp [chkE] at h
      | _ => simp [chkE] at h
    | _ => simp [chkE] at h
  | .rev a, X, sc, W0, e, c, tk, h => by
    cases e with
    | Subscript a' b' pos =>
      simp only [chkE, Bool.and_eq_true] at h
      obtain ⟨k, p1, p2, p3, rfl⟩ := isRevSl_ok h.1
      refine PE.weak (pe_revA (soundE a c tk h.2)) ?_
      rintro σ H Q ⟨W, env, obs, S, g⟩
      refine LG.bnd earlyE S g fun x o1 v W1 H1 l1 S1 r1 g1 => ?_
      obtain ⟨d, e, q⟩ := GP.opt g1
      unfold revD at e
      cases x with
      | lst ds =>
        cases e
        obtain ⟨p, vs, rfl, hp, rs⟩ := S1.lst r1
        exact ⟨p, vs, rfl, .inl ⟨SqL.of hp, GP.lst S1 q rs.reverse⟩⟩
      | tup ds =>
        simp only at e
        split at e
        · cases e
          obtain ⟨p, vs, rfl, hp, rs⟩ := S1.tup r1
          exact ⟨p, vs, rfl, .inr ⟨hp, GP.tup S1 q rs.reverse⟩⟩
        · cases e
      | _ => cases e
    | _ => simp [chkE] at h
  | .call f es, X, sc, W0, e, c, tk, h => by
    cases e with
    | Call g es' kws pos =>
      cases g with
      | Name x p =>
        cases kws with
        | cons _ _ => simp [chkE] at h
        | nil =>
          simp only [chkE, Bool.and_eq_true, Bool.not_eq_true', beq_iff_eq] at h
          obtain ⟨⟨⟨⟨⟨rfl, h1⟩, h2⟩, h3⟩, h4⟩, h5⟩ := h
          obtain ⟨a, fd, ps, F, hm, hk, hb⟩ := c.mo.fn f (by simpa using h3)
          cases es' with
          | nil => simp at h4
          | cons e0 er =>
            have hst := chk_star h5
            refine PE.weak (pe_callS (E := WE W0) F c.room (glB_ok c.hsc h1) hm hk hb (passAt tk) (soundEs es c tk h5) h2 (star_ok (hst e0 List.mem_cons_self)) (plain_of fun x hx => hst x (List.mem_cons_of_mem _ hx))) ?_
            rintro σ H Q ⟨W, env, obs, S, g⟩
            exact LG.bnd earlyE S g fun ds o1 vs W1 H1 l1 S1 r1 g1 => call_of S1 r1 g1
      | _ => simp [chkE] at h
    | _ => simp [chkE] at h
  | .bi f es, X, sc, W0, e, c, tk, h => by
    cases e with
    | Call g es' kws pos =>
      cases g with
      | Name x p =>
        cases kws with
        | cons _ _ => simp [chkE] at h
        | nil =>
          simp only [chkE, Bool.and_eq_true, Bool.not_eq_true', beq_iff_eq, Bool.or_eq_true] at h
          obtain ⟨⟨⟨⟨⟨rfl, h1⟩, h2⟩, h3⟩, h4⟩, h5⟩ := h
          have hm := c.mo.bi _ (by simpa using h2)
          cases es' with
          | nil => simp at h4
          | cons e0 er =>
            have hst := chk_star h5
            rcases h3 with h3 | h3
            · have h3 : f ∈ biB := by simpa using h3
              obtain ⟨r, hr, hop⟩ := biB_ok (X := X) (CA := CA) c.calm f h3
              obtain ⟨b1, b2, b3⟩ := boot_B f h3
              refine PE.weak (pe_callB hr (glB_ok c.hsc h1) hm b1 (soundEs es c tk h5) b2 b3 (star_ok (hst e0 List.mem_cons_self)) (plain_of fun x hx => hst x (List.mem_cons_of_mem _ hx))) ?_
              rintro σ H Q ⟨W, env, obs, S, g⟩
              refine LG.bnd earlyE S g fun ds o1 vs W1 H1 l1 S1 r1 g1 => ?_
              obtain ⟨d, e, q⟩ := GP.opt g1
              exact hop W1 σ H1 env o1 vs ds d Q S1 r1 e q
            · have h3 : f ∈ biT := by simpa using h3
              obtain ⟨r, hr, hop⟩ := biT_ok (X := X) (CA := CA) f h3
              obtain ⟨b1, b2, b3⟩ := boot_T f h3
              refine PE.weak (pe_callTy hr (glB_ok c.hsc h1) hm b1 (soundEs es c tk h5) b2 b3 (star_ok (hst e0 List.mem_cons_self)) (plain_of fun x hx => hst x (List.mem_cons_of_mem _ hx))) ?_
              rintro σ H Q ⟨W, env, obs, S, g⟩
              refine LG.bnd earlyE S g fun ds o1 vs W1 H1 l1 S1 r1 g1 => ?_
              obtain ⟨d, e, q⟩ := GP.opt g1
              exact hop W1 σ H1 env o1 vs ds d Q S1 r1 e q
      | _ => simp [chkE] at h
    | _ => simp [chkE] at h
  | .isi a t, X, sc, W0, e, c, tk, h => by
    cases e with
    | Call g es' kws pos =>
      cases g with
      | Name x p =>
        cases kws with
        | cons _ _ => simp [chkE] at h
        | nil =>
          unfold chkE at h
          split at h
          · simp only [Bool.and_eq_true, Bool.not_eq_true', beq_iff_eq] at h
            obtain ⟨⟨⟨⟨⟨⟨⟨⟨rfl, h1⟩, h2⟩, h3⟩, rfl⟩, h4⟩, h5⟩, h6⟩, h7⟩ := h
            have ht : t ∈ isiTs := by simpa using h3
            obtain ⟨b1, b2, b3⟩ := boot_isi t ht
            obtain ⟨r, hr, hop⟩ := isi_ok (X := X) (CA := CA) ht
            refine PE.weak (pe_callB hr (glB_ok c.hsc h1) (c.mo.bi _ (by simpa using h2)) boot_isin (pa_cons (soundE a c tk h6) (pa_cons (pe_bltn (v := .ty t) (glB_ok c.hsc h4) (c.mo.bi _ (by simpa using h5)) b1 rfl b2 b3) pa_nil) (star_ok h7)) (by decide) (by decide) (star_ok h7)) ?_
            rintro σ H Q ⟨W, env, obs, S, g⟩
            refine LG.bnd earlyE S g fun x o1 v W1 H1 l1 S1 r1 g1 => ?_
            obtain ⟨d, e, q⟩ := GP.opt g1
            rw [Option.map_eq_some_iff] at e
            obtain ⟨k, e, rfl⟩ := e
            exact hop W1 σ H1 env o1 v x k Q S1 r1 e (q _ W1 H1 .refl S1 (.bl k))
          · cases h
      | _ => simp [chkE] at h
    | _ => simp [chkE] at h
  | .mth T m a es, X, sc, W0, e, c, tk, h => by simp [chkE] at h
  | .lc x tg it k own, X, sc, W0, e, c, tk, h => by
    cases e with
    | ListComp x' gs scope pos =>
      unfold chkE at h
      split at h
      · simp only [Bool.and_eq_true] at h
        obtain ⟨⟨⟨⟨h1, h2⟩, h3⟩, h4⟩, h5⟩ := h
        have cb : ∀ (s : Shared) (H : Hp) (C : Addr) (cl : List (Str × Addr)) (fp : List Addr), Ctx CA fs bs N G Φ n (relS scope sc) (X.blk s H scope (compEnvC scope cl C X.env) fp) := fun s H C cl fp =>
          ⟨c.hN, c.nd, by rw [← c.hsc]; rfl, c.calm, c.room, c.mo⟩
        have hpg : ∀ (s : Shared) (H : Hp) (C : Addr) (cl : List (Str × Addr)) (fp : List Addr), PG (X.blk s H scope (compEnvC scope cl C X.env) fp) _ (gTg X.K tg) ∧ ∀ i ∈ tg.sl, i ∈ own.map (·.2) := fun s H C cl fp =>
          pg_of (X := X.blk s H scope (compEnvC scope cl C X.env) fp) c.hN c.nd c.calm (fun y hy => by
            unfold locB at hy
            split at hy
            · rename_i e
              have : (relS scope X.env.scope).names.lookup y = some .local := lookup_relS_keep (by decide) e
              exact ⟨.inl this, .inr this⟩
            · rename_i e
              have : (relS scope X.env.scope).names.lookup y = some .cell := lookup_relS_keep (by decide) e
              exact ⟨.inr this, .inl (by show (scope.names.lookup y == some .cell) = true; rw [e]; rfl)⟩
            · cases hy) h3
        have hfold : ∀ z, foldedSetIterable _ X.env z = pure z := folded_ok (chkI_set h2)
        have ok : BlkOk X.N X.env.scope scope own := by rw [c.hN, c.hsc]; exact blkOk_by h1
        refine PE.weak (pe_lc (tt := LT X.K CA (fun _ _ _ _ => False) (denC Φ G k)) (te := LE X.K CA (fun _ _ _ _ => False) (denE Φ G x)) c.calm (by rw [c.hN]; exact c.nd) (soundI it c tk h2) ok (fun s H C cl fp => (hpg s H C cl fp).1) (fun s H C cl fp => soundC k (cb s H C cl fp) takes0 h4) (fun s H C cl fp => soundE x (cb s H C cl fp) takes0 h5) hfold) ?_
        intro σ H Q g
        refine lc_of (fun i hi => ?_) (lf_of g)
        exact chkTg_own h3 i hi
      · cases h
    | _ => simp [chkE] at h
  | .lc2 x tg it k tg1 it1 k1 own vs1, X, sc, W0, e, c, tk, h => by
    cases e with
    | ListComp x' gs scope pos =>
      unfold chkE at h
      split at h
      · simp only [Bool.and_eq_true, List.all_eq_true] at h
        obtain ⟨⟨⟨⟨⟨⟨⟨⟨h1, h2⟩, h3⟩, h4⟩, h6⟩, h7⟩, h8⟩, h9⟩, h5⟩ := h
        have cb : ∀ (s : Shared) (H : Hp) (C : Addr) (cl : List (Str × Addr)) (fp : List Addr), Ctx CA fs bs N G Φ n (relS scope sc) (X.blk s H scope (compEnvC scope cl C X.env) fp) := fun s H C cl fp =>
          ⟨c.hN, c.nd, by rw [← c.hsc]; rfl, c.calm, c.room, c.mo⟩
        have hloc : ∀ (s : Shared) (H : Hp) (C : Addr) (cl : List (Str × Addr)) (fp : List Addr), LocOk (X.blk s H scope (compEnvC scope cl C X.env) fp) scope := fun s H C cl fp y hy => by
            unfold locB at hy
            split at hy
            · rename_i e
              have : (relS scope X.env.scope).names.lookup y = some .local := lookup_relS_keep (by decide) e
              exact ⟨.inl this, .inr this⟩
            · rename_i e
              have : (relS scope X.env.scope).names.lookup y = some .cell := lookup_relS_keep (by decide) e
              exact ⟨.inr this, .inl (by show (scope.names.lookup y == some .cell) = true; rw [e]; rfl)⟩
            · cases hy
        have hpg : ∀ (s : Shared) (H : Hp) (C : Addr) (cl : List (Str × Addr)) (fp : List Addr), PG (X.blk s H scope (compEnvC scope cl C X.env) fp) _ (gTg X.K tg) ∧ ∀ i ∈ tg.sl, i ∈ own.map (·.2) := fun s H C cl fp =>
          pg_of (X := X.blk s H scope (compEnvC scope cl C X.env) fp) c.hN c.nd c.calm (hloc s H C cl fp) h3
        have hpg1 : ∀ (s : Shared) (H : Hp) (C : Addr) (cl : List (Str × Addr)) (fp : List Addr), PG (X.blk s H scope (compEnvC scope cl C X.env) fp) _ (gTg X.K tg1) ∧ ∀ i ∈ tg1.sl, i ∈ vs1 := fun s H C cl fp =>
          pg_of (X := X.blk s H scope (compEnvC scope cl C X.env) fp) c.hN c.nd c.calm (hloc s H C cl fp) h7
        have hfold : ∀ z, foldedSetIterable _ X.env z = pure z := folded_ok (chkI_set h2)
        have hfold1 : ∀ env z, foldedSetIterable _ env z = pure z := fun env => folded_ok (chkI_set h6)
        have ok : BlkOk X.N X.env.scope scope own := by rw [c.hN, c.hsc]; exact blkOk_by h1
        refine PE.weak (pe_lc2 (tt := LT X.K CA (fun _ _ _ _ => False) (denC Φ G k)) (wi1 := LG X.K CA (fun _ _ _ _ => False) (relI X.K CA) (denI Φ G it1)) (tt1 := LT X.K CA (fun _ _ _ _ => False) (denC Φ G k1)) (te := LE X.K CA (fun _ _ _ _ => False) (denE Φ G x)) c.calm (by rw [c.hN]; exact c.nd) (soundI it c tk h2) ok (fun i hi => by simpa using h8 i hi) (fun s H C cl fp => (hpg s H C cl fp).1) (fun s H C cl fp => soundC k (cb s H C cl fp) takes0 h4)
          (fun s H C cl fp => soundI it1 (cb s H C cl fp) takes0 h6) (fun s H C cl fp => (hpg1 s H C cl fp).1) (fun s H C cl fp => soundC k1 (cb s H C cl fp) takes0 h9) (fun s H C cl fp => soundE x (cb s H C cl fp) takes0 h5) hfold hfold1) ?_
        intro σ H Q g
        exact lc2_of (fun i hi => chkTg_own h3 i hi) (fun i hi => chkTg_own h7 i hi) (lf_of g)
      · cases h
    | _ => simp [chkE] at h
  | .sset a, X, sc, W0, e, c, tk, h => by
    cases e with
    | Call g es' kws pos =>
      cases g with
      | Name x p =>
        cases kws with
        | cons _ _ => simp [chkE] at h
        | nil =>
          unfold chkE at h
          split at h
          · simp only [Bool.and_eq_true, beq_iff_eq] at h
            obtain ⟨⟨⟨⟨⟨⟨rfl, h1⟩, h2⟩, rfl⟩, h3⟩, h4⟩, h⟩ := h
            split at h
            · simp only [Bool.and_eq_true, Bool.not_eq_true'] at h
              obtain ⟨h5, h6⟩ := h
              obtain ⟨b1, b2, b3⟩ := boot_B "sorted" (by decide)
              refine PE.weak (pe_callB (cr_sortedSet c.calm) (glB_ok c.hsc h1) (c.mo.bi _ (by simpa using h2)) b1 (pa_cons (pe_callTy (call_setL (X := X) c.calm) (glB_ok c.hsc h3) (c.mo.bi _ (by simpa using h4)) boot_set (pa_cons (soundE a c tk h5) pa_nil (star_ok h6)) (by decide) (by decide) (star_ok h6) rfl) pa_nil rfl) b2 b3 rfl rfl) ?_
              rintro σ H Q ⟨W, env, obs, S, g⟩
              refine LG.bnd earlyE S g fun x o1 v W1 H1 l1 S1 r1 g1 => ?_
              obtain ⟨d, e, q⟩ := GP.opt g1
              unfold ssetD at e
              cases x with
              | lst ds =>
                simp only [Option.bind_eq_some_iff] at e
                obtain ⟨ns, e1, e⟩ := e
                split at e
                · rename_i h64
                  cases e
                  cases intsD_some e1
                  obtain ⟨p, vs, rfl, hp, rs⟩ := S1.lst r1
                  rw [rs.to_ints] at hp
                  refine ⟨p, ns, rfl, SqL.of hp, by have := h64; unfold scanBound at *; omega, fun u c hu hc => ?_⟩
                  refine ⟨u, _, c, rfl, upd_same, by omega, fun ms w hs hm hl hw => ?_⟩
                  have e2 : ms = ssetI ns := sset_eq hs fun k => by rw [hm]; simp
                  subst e2
                  have S2 := S1.heap (H' := upd H1 u (SetO X.w u (fun j => decide (j ∈ ns)) c)) fun a o z => by rw [upd_ne (ne_of_none z hu)]; exact z
                  have l2 := leE_heap S1 (H' := upd H1 u (SetO X.w u (fun j => decide (j ∈ ns)) c)) fun a o z => by rw [upd_ne (ne_of_none z hu)]; exact z
                  exact GP.lst S2 (fun v W' H' l S' r => q v W' H' (l2.trans l) S' r) (Reps.ints _) w hw
                · cases e
              | _ => cases e
            · cases h
          · cases h
      | _ => simp [chkE] at h
    | _ => simp [chkE] at h
  | .oix a b, X, sc, W0, e, c, tk, h => by
    cases e with
    | Subscript a' b' pos =>
      simp only [chkE, Bool.and_eq_true, Bool.not_eq_true'] at h
      obtain ⟨⟨h1, h2⟩, h3⟩ := h
      refine PE.weak (pe_ix ix_seq (soundE a c tk h1) (soundE b c tk h2) (plainIx_ok h3)) ?_
      rintro σ H Q ⟨W, env, obs, S, g⟩
      refine LG.bnd earlyE S g fun x o1 v W1 H1 l1 S1 r1 g1 => ?_
      refine LG.bnd earlyE S1 g1 fun y o2 u W2 H2 l2 S2 r2 g2 => ?_
      obtain ⟨d, e, q⟩ := GP.opt g2
      cases y with
      | int i =>
        cases r2
        rw [Option.bind_eq_some_iff] at e
        obtain ⟨ds, e1, e2⟩ := e
        obtain ⟨n, rfl, e3⟩ := lsO_some e1
        obtain ⟨p, vs, rfl, _, hp, rs⟩ := S2.ols (l2.d.rep r1) e3
        obtain ⟨w, a1, a2⟩ := rs.atI e2
        exact .inl ⟨p, vs, _, w, rfl, rfl, SqL.of hp, a1, q _ W2 H2 .refl S2 a2⟩
      | _ => cases e
    | _ => simp [chkE] at h
  | .olen a, X, sc, W0, e, c, tk, h => by
    cases e with
    | Call g es' kws pos =>
      cases g with
      | Name x p =>
        cases kws with
        | cons _ _ => simp [chkE] at h
        | nil =>
          unfold chkE at h
          split at h
          · simp only [Bool.and_eq_true, Bool.not_eq_true', beq_iff_eq] at h
            obtain ⟨⟨⟨⟨rfl, h1⟩, h2⟩, h3⟩, h4⟩ := h
            obtain ⟨b1, b2, b3⟩ := boot_B "len" (by decide)
            refine PE.weak (pe_callB call_len (glB_ok c.hsc h1) (c.mo.bi _ (by simpa using h2)) b1 (pa_cons (soundE a c tk h3) pa_nil (star_ok h4)) b2 b3 (star_ok h4) rfl) ?_
            rintro σ H Q ⟨W, env, obs, S, g⟩
            refine LG.bnd earlyE S g fun x o1 v W1 H1 l1 S1 r1 g1 => ?_
            obtain ⟨d, e, q⟩ := GP.opt g1
            rw [Option.map_eq_some_iff] at e
            obtain ⟨ds, e1, rfl⟩ := e
            obtain ⟨n, rfl, e3⟩ := lsO_some e1
            obtain ⟨p, vs, rfl, _, hp, rs⟩ := S1.ols r1 e3
            exact ⟨_, vs.length, rfl, .inl ⟨vs, SqL.of hp, rfl⟩, by rw [rs.length]; exact q _ W1 H1 .refl S1 (.int _)⟩
          · cases h
      | _ => simp [chkE] at h
    | _ => simp [chkE] at h
  | .olist a, X, sc, W0, e, c, tk, h => by
    cases e with
    | Call g es' kws pos =>
      cases g with
      | Name x p =>
        cases kws with
        | cons _ _ => simp [chkE] at h
        | nil =>
          unfold chkE at h
          split at h
          · simp only [Bool.and_eq_true, Bool.not_eq_true', beq_iff_eq] at h
            obtain ⟨⟨⟨⟨rfl, h1⟩, h2⟩, h3⟩, h4⟩ := h
            obtain ⟨b1, b2, b3⟩ := boot_T "list" (by decide)
            refine PE.weak (pe_callTy call_list_of (glB_ok c.hsc h1) (c.mo.bi _ (by simpa using h2)) b1 (pa_cons (soundE a c tk h3) pa_nil (star_ok h4)) b2 b3 (star_ok h4) rfl) ?_
            rintro σ H Q ⟨W, env, obs, S, g⟩
            refine LG.bnd earlyE S g fun x o1 v W1 H1 l1 S1 r1 g1 => ?_
            cases x with
            | lst ds =>
              obtain ⟨q, vs, rfl, hp, rs⟩ := S1.lst r1
              exact ⟨q, vs, rfl, .inl (SqL.of hp), GP.onew S1 g1 rs⟩
            | tup ds =>
              obtain ⟨q, vs, rfl, hp, rs⟩ := S1.tup r1
              exact ⟨q, vs, rfl, .inr hp, GP.onew S1 g1 rs⟩
            | _ => exact g1.elim
          · cases h
      | _ => simp [chkE] at h
    | _ => simp [chkE] at h
  | .onew es, X, sc, W0, e, c, tk, h => by
    cases e with
    | List es' pos =>
      refine PE.weak (pe_lst (soundEs es c tk (by simpa [chkE] using h))) ?_
      rintro σ H Q ⟨W, env, obs, S, g⟩
      refine LG.bnd earlyE S g fun ds o1 vs W1 H1 l1 S1 r1 g1 => ?_
      split at g1
      · rename_i hl
        have r1 : W1.reps X.K vs ds := r1
        exact ⟨by rw [r1.length]; exact hl, GP.onew S1 g1 r1⟩
      · exact g1.elim
    | _ => simp [chkE] at h
  | .om m a b, X, sc, W0, e, c, tk, h => by
    cases e with
    | Call f es' kws cpos =>
      cases f with
      | Attribute a' m' apos =>
        cases kws with
        | cons _ _ => simp [chkE] at h
        | nil =>
          unfold chkE at h
          split at h
          · simp only [Bool.and_eq_true, Bool.not_eq_true', beq_iff_eq] at h
            obtain ⟨⟨⟨⟨⟨⟨rfl, h1⟩, h2⟩, h3⟩, h4⟩, h5⟩, h6⟩ := h
            have hst := star_ok (es := []) (env := X.env) h6
            have ha := soundE a c tk h4
            have hb := pa_cons (soundE b c tk h5) pa_nil hst
            have h1 : m ∈ oMs := by simpa using h1
            simp only [oMs, List.mem_cons, List.not_mem_nil, or_false] at h1
            have fin : ∀ {r : V → List V → Hp → VK → Prop}, (∀ (W : Wd) (σ : L2.St) (H : Hp) (env : Env) (o : Obs) (x d : D) (v u : V) (y : D × Obs) (ds : List D) (Q : V → Hp → Prop), SRel X.K CA W σ H env o → W.rep X.K v x → W.rep X.K u d → omD m o x d = some y →
                (∀ w W' H', W.leE W' H H' → SRel X.K CA W' σ H' env y.2 → W'.rep X.K w y.1 → Q w H') → r v [u] H Q) →
                ∀ σ H Q, LE X.K CA W0 (denE Φ G (.om m a b)) σ H Q → tBM X.K "list" r (LE X.K CA W0 (denE Φ G a)) (tCons (LE X.K CA W0 (denE Φ G b)) tNil) σ H Q := by
              intro r hr σ H Q ⟨W, env, obs, S, g⟩
              refine LG.bnd earlyE S g fun x o1 v W1 H1 l1 S1 r1 g1 => ?_
              cases hl : lsO o1 x with
              | none => simp only [hl] at g1; exact g1.elim
              | some ds =>
                simp only [hl] at g1
                obtain ⟨n, rfl, e3⟩ := lsO_some hl
                obtain ⟨p, vs, rfl, _, hp, rs⟩ := S1.ols r1 e3
                refine ⟨.inl ⟨rfl, vs, SqL.of hp⟩, ?_⟩
                refine LG.bnd earlyE S1 g1 fun d o2 u W2 H2 l2 S2 r2 g2 => ?_
                cases hy : omD m o2 (.obj n) d with
                | none => simp only [hy] at g2; exact g2.elim
                | some y =>
                  simp only [hy] at g2
                  exact hr W2 σ H2 env o2 _ d _ u y ds Q S2 (l2.d.rep r1) r2 hy g2
            rcases h1 with rfl | rfl | rfl
            · refine PE.weak (pe_bm PySem.F.plainAttrs_list PySem.F.slot_list_append PySem.F.type_list_append mt_append ha hb (base_ok h2) (by rw [hst]; rfl) (by simpa using h3) hst rfl) (fin ?_)
              intro W σ H env o x d v u y ds Q S rx rd hy q
              unfold omD at hy
              cases hl : lsO o x with
              | none => simp [hl] at hy
              | some es =>
                simp only [hl, beq_self_eq_true, if_true] at hy
                split at hy
                · rename_i hlt
                  cases hy
                  obtain ⟨n, rfl, e3⟩ := lsO_some hl
                  obtain ⟨p, vs, rfl, hA, hp, rs⟩ := S.ols rx e3
                  obtain ⟨S2, l2⟩ := S.owrite (o := .lst (vs ++ [u])) (ob := .ls (es ++ [d])) hA (List.getElem?_eq_some_iff.mp e3).1 ⟨_, upd_same, rs.append (Reps.one rd)⟩
                  exact ⟨p, vs, u, rfl, rfl, hp, by rw [rs.length]; exact hlt, q _ W _ l2 S2 .non⟩
                · cases hy
            · refine PE.weak (pe_bm PySem.F.plainAttrs_list PySem.F.slot_list_extend PySem.F.type_list_extend mt_extend ha hb (base_ok h2) (by rw [hst]; rfl) (by simpa using h3) hst rfl) (fin ?_)
              intro W σ H env o x d v u y ds Q S rx rd hy q
              unfold omD at hy
              cases hl : lsO o x with
              | none => simp [hl] at hy
              | some es =>
                simp only [hl, show (("extend" : String) == "append") = false from by decide, beq_self_eq_true, if_true, Bool.false_eq_true, if_false] at hy
                cases d with
                | lst fs =>
                  simp only at hy
                  split at hy
                  · rename_i hlt
                    cases hy
                    obtain ⟨n, rfl, e3⟩ := lsO_some hl
                    obtain ⟨p, vs, rfl, hA, hp, rs⟩ := S.ols rx e3
                    obtain ⟨b, us, rfl, hb', rb⟩ := S.lst rd
                    obtain ⟨S2, l2⟩ := S.owrite (o := .lst (vs ++ us)) (ob := .ls (es ++ fs)) hA (List.getElem?_eq_some_iff.mp e3).1 ⟨_, upd_same, rs.append rb⟩
                    exact ⟨p, b, vs, us, rfl, rfl, hp, hb', by rw [rs.length, rb.length]; exact hlt, q _ W _ l2 S2 .non⟩
                  · cases hy
                | _ => simp at hy
            · refine PE.weak (pe_bm PySem.F.plainAttrs_list PySem.F.slot_list_pop PySem.F.type_list_pop mt_popAt ha hb (base_ok h2) (by rw [hst]; rfl) (by simpa using h3) hst rfl) (fin ?_)
              intro W σ H env o x d v u y ds Q S rx rd hy q
              unfold omD at hy
              cases hl : lsO o x with
              | none => simp [hl] at hy
              | some es =>
                simp only [hl, show (("pop" : String) == "append") = false from by decide, show (("pop" : String) == "extend") = false from by decide, beq_self_eq_true, if_true, Bool.false_eq_true, if_false] at hy
                cases d with
                | int i =>
                  simp only at hy
                  split at hy
                  · rename_i hlt
                    have hlt := of_decide_eq_true hlt
                    cases hk : seqIndex? i es.length with
                    | none => simp [hk] at hy
                    | some k =>
                      simp only [hk, Option.map_eq_some_iff] at hy
                      obtain ⟨w, hw, rfl⟩ := hy
                      cases rd
                      obtain ⟨n, rfl, e3⟩ := lsO_some hl
                      obtain ⟨p, vs, rfl, hA, hp, rs⟩ := S.ols rx e3
                      obtain ⟨z, hz, rz⟩ := rs.get hw
                      obtain ⟨S2, l2⟩ := S.owrite (o := .lst (vs.eraseIdx k)) (ob := .ls (es.eraseIdx k)) hA (List.getElem?_eq_some_iff.mp e3).1 ⟨_, upd_same, rs.eraseIdx k⟩
                      exact ⟨p, vs, i, k, z, rfl, rfl, hp, hlt.1, hlt.2, by rw [rs.length]; exact hk, hz, q _ W _ l2 S2 rz⟩
                  · cases hy
                | _ => simp at hy
          · cases h
      | _ => simp [chkE] at h
    | _ => simp [chkE] at h
  | .bor i a, X, sc, W0, e, c, tk, h => by
    refine PE.weak (soundE a c tk (by simpa [chkE] using h)) fun σ H Q g => ?_
    refine bor_of (ok := noL) (fun W W1 W' W2 H' v d r k hF hA => ?_) g
    show Rep X.K W2.F W2.A v d
    rw [hA]; exact Rep.noL hF r k
theorem soundCon : ∀ (es : Es) {X : Cx} {sc : Scope} {W0 : WX} {es' : List Expr} {pos : Pos}, Ctx CA fs bs N G Φ n sc X → Takes X W0 → chkEs fs bs N sc es es' = true → PE X (.BoolOp .And es' pos) (LE X.K CA W0 (denCon Φ G es))
  | .nil, X, sc, W0, es', pos, c, tk, h => by
    cases es' with
    | nil => exact ⟨fun pins s σ H Q I ⟨W, env, obs, S, g⟩ => g.elim⟩
    | cons _ _ => simp [chkEs] at h
  | .cons a .nil, X, sc, W0, es', pos, c, tk, h => by
    cases es' with
    | nil => simp [chkEs] at h
    | cons a' r' =>
      simp only [chkEs, Bool.and_eq_true] at h
      cases r' with
      | nil => exact PE.weak (pe_one (soundE a c tk h.1.1)) fun σ H Q g => g
      | cons _ _ => simp [chkEs] at h
  | .cons a (.cons b r), X, sc, W0, es', pos, c, tk, h => by
    cases es' with
    | nil => simp [chkEs] at h
    | cons a' r' =>
      cases r' with
      | nil => simp [chkEs] at h
      | cons b' r' =>
        have h1 : chkE fs bs N sc a a' = true := by simp only [chkEs, Bool.and_eq_true] at h; exact h.1.1
        have h2 : chkEs fs bs N sc (.cons b r) (b' :: r') = true := by
          unfold chkEs at h; simp only [Bool.and_eq_true] at h; exact h.2
        refine PE.weak (pe_and (soundE a c tk h1) (soundCon (.cons b r) c tk h2)) ?_
        rintro σ H Q ⟨W, env, obs, S, g⟩
        refine LG.bnd earlyE S g fun x o1 v W1 H1 l1 S1 r1 g1 => ?_
        cases x with
        | bl k =>
          cases r1
          cases k with
          | true => exact ⟨true, rfl, W1, env, o1, S1, g1⟩
          | false => exact ⟨false, rfl, g1 _ W1 H1 .refl S1 (.bl _)⟩
        | _ => exact g1.elim
theorem soundDis : ∀ (es : Es) {X : Cx} {sc : Scope} {W0 : WX} {es' : List Expr} {pos : Pos}, Ctx CA fs bs N G Φ n sc X → Takes X W0 → chkEs fs bs N sc es es' = true → PE X (.BoolOp .Or es' pos) (LE X.K CA W0 (denDis Φ G es))
  | .nil, X, sc, W0, es', pos, c, tk, h => by
    cases es' with
    | nil => exact ⟨fun pins s σ H Q I ⟨W, env, obs, S, g⟩ => g.elim⟩
    | cons _ _ => simp [chkEs] at h
  | .cons a .nil, X, sc, W0, es', pos, c, tk, h => by
    cases es' with
    | nil => simp [chkEs] at h
    | cons a' r' =>
      simp only [chkEs, Bool.and_eq_true] at h
      cases r' with
      | nil => exact PE.weak (pe_one (soundE a c tk h.1.1)) fun σ H Q g => g
      | cons _ _ => simp [chkEs] at h
  | .cons a (.cons b r), X, sc, W0, es', pos, c, tk, h => by
    cases es' with
    | nil => simp [chkEs] at h
    | cons a' r' =>
      cases r' with
      | nil => simp [chkEs] at h
      | cons b' r' =>
        have h1 : chkE fs bs N sc a a' = true := by simp only [chkEs, Bool.and_eq_true] at h; exact h.1.1
        have h2 : chkEs fs bs N sc (.cons b r) (b' :: r') = true := by
          unfold chkEs at h; simp only [Bool.and_eq_true] at h; exact h.2
        refine PE.weak (pe_or (soundE a c tk h1) (soundDis (.cons b r) c tk h2)) ?_
        rintro σ H Q ⟨W, env, obs, S, g⟩
        refine LG.bnd earlyE S g fun x o1 v W1 H1 l1 S1 r1 g1 => ?_
        cases x with
        | bl k =>
          cases r1
          cases k with
          | false => exact ⟨false, rfl, W1, env, o1, S1, g1⟩
          | true => exact ⟨true, rfl, g1 _ W1 H1 .refl S1 (.bl _)⟩
        | _ => exact g1.elim
theorem soundTC : ∀ (es : Es) {X : Cx} {sc : Scope} {W0 : WX} {es' : List Expr} {pos : Pos}, Ctx CA fs bs N G Φ n sc X → Takes X W0 → chkEs fs bs N sc es es' = true → PW X (.BoolOp .And es' pos) (LT X.K CA W0 (denTC Φ G es))
  | .nil, X, sc, W0, es', pos, c, tk, h => by
    cases es' with
    | nil => exact ⟨fun wh pins s σ H Q I ⟨W, env, obs, S, g⟩ => g.elim⟩
    | cons _ _ => simp [chkEs] at h
  | .cons a .nil, X, sc, W0, es', pos, c, tk, h => by
    cases es' with
    | nil => simp [chkEs] at h
    | cons a' r' =>
      simp only [chkEs, Bool.and_eq_true] at h
      cases r' with
      | nil => exact PW.weak (pw_and1 (soundT a c tk h.1.1)) fun σ H Q g => g
      | cons _ _ => simp [chkEs] at h
  | .cons a (.cons b r), X, sc, W0, es', pos, c, tk, h => by
    cases es' with
    | nil => simp [chkEs] at h
    | cons a' r' =>
      cases r' with
      | nil => simp [chkEs] at h
      | cons b' r' =>
        have h1 : chkE fs bs N sc a a' = true := by simp only [chkEs, Bool.and_eq_true] at h; exact h.1.1
        have h2 : chkEs fs bs N sc (.cons b r) (b' :: r') = true := by
          unfold chkEs at h; simp only [Bool.and_eq_true] at h; exact h.2
        refine PW.weak (pw_and (soundT a c tk h1) (soundTC (.cons b r) c tk h2)) ?_
        rintro σ H Q ⟨W, env, obs, S, g⟩
        refine LG.bnd earlyT S g fun x o1 v W1 H1 l1 S1 r1 g1 => ?_
        have r1 : v = x := r1
        subst r1
        cases v with
        | true => exact ⟨W1, env, o1, S1, g1⟩
        | false => exact g1 _ W1 H1 .refl S1 rfl
theorem soundTD : ∀ (es : Es) {X : Cx} {sc : Scope} {W0 : WX} {es' : List Expr} {pos : Pos}, Ctx CA fs bs N G Φ n sc X → Takes X W0 → chkEs fs bs N sc es es' = true → PW X (.BoolOp .Or es' pos) (LT X.K CA W0 (denTD Φ G es))
  | .nil, X, sc, W0, es', pos, c, tk, h => by
    cases es' with
    | nil => exact ⟨fun wh pins s σ H Q I ⟨W, env, obs, S, g⟩ => g.elim⟩
    | cons _ _ => simp [chkEs] at h
  | .cons a .nil, X, sc, W0, es', pos, c, tk, h => by
    cases es' with
    | nil => simp [chkEs] at h
    | cons a' r' =>
      simp only [chkEs, Bool.and_eq_true] at h
      cases r' with
      | nil => exact PW.weak (pw_or1 (soundT a c tk h.1.1)) fun σ H Q g => g
      | cons _ _ => simp [chkEs] at h
  | .cons a (.cons b r), X, sc, W0, es', pos, c, tk, h => by
    cases es' with
    | nil => simp [chkEs] at h
    | cons a' r' =>
      cases r' with
      | nil => simp [chkEs] at h
      | cons b' r' =>
        have h1 : chkE fs bs N sc a a' = true := by simp only [chkEs, Bool.and_eq_true] at h; exact h.1.1
        have h2 : chkEs fs bs N sc (.cons b r) (b' :: r') = true := by
          unfold chkEs at h; simp only [Bool.and_eq_true] at h; exact h.2
        refine PW.weak (pw_or (soundT a c tk h1) (soundTD (.cons b r) c tk h2)) ?_
        rintro σ H Q ⟨W, env, obs, S, g⟩
        refine LG.bnd earlyT S g fun x o1 v W1 H1 l1 S1 r1 g1 => ?_
        have r1 : v = x := r1
        subst r1
        cases v with
        | false => exact ⟨W1, env, o1, S1, g1⟩
        | true => exact g1 _ W1 H1 .refl S1 rfl
theorem soundEs : ∀ (es : Es) {X : Cx} {sc : Scope} {W0 : WX} {es' : List Expr}, Ctx CA fs bs N G Φ n sc X → Takes X W0 → chkEs fs bs N sc es es' = true → PA X es' (LA X.K CA W0 (denEs Φ G es))
  | .nil, X, sc, W0, es', c, tk, h => by
    cases es' with
    | nil => exact PA.weak pa_nil fun σ H Q ⟨W, env, obs, S, g⟩ => g [] W H .refl S .nil
    | cons _ _ => simp [chkEs] at h
  | .cons a r, X, sc, W0, es', c, tk, h => by
    cases es' with
    | nil => simp [chkEs] at h
    | cons a' r' =>
      simp only [chkEs, Bool.and_eq_true, Bool.not_eq_true'] at h
      refine PA.weak (pa_cons (soundE a c tk h.1.1) (soundEs r c tk h.2) (star_ok h.1.2)) ?_
      rintro σ H Q ⟨W, env, obs, S, g⟩
      refine LG.bnd earlyA S g fun x o1 v W1 H1 l1 S1 r1 g1 => ?_
      refine LG.bnd earlyA S1 g1 fun xs o2 vs W2 H2 l2 S2 r2 g2 => ?_
      exact g2 _ W2 H2 .refl S2 (.cons (l2.d.rep r1) r2)
theorem soundO : ∀ (m : Eo) {X : Cx} {sc : Scope} {W0 : WX} {e : Option Expr}, Ctx CA fs bs N G Φ n sc X → Takes X W0 → chkO fs bs N sc m e = true → PO X e (LO X.K CA W0 (denO Φ G m))
  | .none, X, sc, W0, e, c, tk, h => by
    cases e with
    | none => exact ⟨fun pins s σ H Q I ⟨W, env, obs, S, g⟩ => po_none.run pins s σ H Q I (g none W H .refl S rfl)⟩
    | some _ => simp [chkO] at h
  | .some a, X, sc, W0, e, c, tk, h => by
    cases e with
    | none => simp [chkO] at h
    | some e =>
      refine ⟨fun pins s σ H Q I ⟨W, env, obs, S, g⟩ => (po_some (soundE a c tk (by simpa [chkO] using h))).run pins s σ H Q I ?_⟩
      refine LG.bnd earlyO S g fun x o1 v W1 H1 l1 S1 r1 g1 => ?_
      cases x with
      | int i => cases r1; exact ⟨i, rfl, g1 _ W1 H1 .refl S1 rfl⟩
      | _ => exact g1.elim
theorem soundC : ∀ (m : Eo) {X : Cx} {sc : Scope} {W0 : WX} {es : List Expr}, Ctx CA fs bs N G Φ n sc X → Takes X W0 → chkC fs bs N sc m es = true → PTs X es (LT X.K CA W0 (denC Φ G m))
  | .none, X, sc, W0, es, c, tk, h => by
    cases es with
    | nil => exact ⟨fun pins s σ H Q I ⟨W, env, obs, S, g⟩ => pts_nil.run pins s σ H Q I (g true W H .refl S rfl)⟩
    | cons _ _ => simp [chkC] at h
  | .some a, X, sc, W0, es, c, tk, h => by
    cases es with
    | nil => simp [chkC] at h
    | cons e r =>
      cases r with
      | nil => exact pts_one (soundT a c tk (by simpa [chkC] using h))
      | cons _ _ => simp [chkC] at h
theorem soundT : ∀ (m : E) {X : Cx} {sc : Scope} {W0 : WX} {e : Expr}, Ctx CA fs bs N G Φ n sc X → Takes X W0 → chkE fs bs N sc m e = true → PT X e (LT X.K CA W0 (denT Φ G m))
  | .not a, X, sc, W0, e, c, tk, h => by
    cases e with
    | UnaryOp op a' pos =>
      cases op with
      | Not =>
        refine PT.weak (pt_not (soundT a c tk (by simpa [chkE] using h))) ?_
        rintro σ H Q ⟨W, env, obs, S, g⟩
        refine LG.bnd earlyT S g fun x o1 v W1 H1 l1 S1 r1 g1 => ?_
        have r1 : v = x := r1
        subst r1
        exact g1 _ W1 H1 .refl S1 rfl
      | _ => simp [chkE] at h
    | _ => simp [chkE] at h
  | .con es, X, sc, W0, e, c, tk, h => by
    cases e with
    | BoolOp op es' pos =>
      cases op with
      | And => exact (soundTC es c tk (by simpa [chkE] using h)).pt
      | _ => simp [chkE] at h
    | _ => simp [chkE] at h
  | .dis es, X, sc, W0, e, c, tk, h => by
    cases e with
    | BoolOp op es' pos =>
      cases op with
      | Or => exact (soundTD es c tk (by simpa [chkE] using h)).pt
      | _ => simp [chkE] at h
    | _ => simp [chkE] at h
  | .ife k a b, X, sc, W0, e, c, tk, h => by
    cases e with
    | IfExp k' a' b' pos =>
      simp only [chkE, Bool.and_eq_true] at h
      obtain ⟨⟨h1, h2⟩, h3⟩ := h
      refine PT.weak (pt_ifE (soundT k c tk h1) (soundT a c tk h2) (soundT b c tk h3)) ?_
      rintro σ H Q ⟨W, env, obs, S, g⟩
      refine LG.bnd earlyT S g fun x o1 v W1 H1 l1 S1 r1 g1 => ?_
      have r1 : v = x := r1
      subst r1
      cases v with
      | true => exact ⟨W1, env, o1, S1, g1⟩
      | false => exact ⟨W1, env, o1, S1, g1⟩
    | _ => simp [chkE] at h
  | .bor i a, X, sc, W0, e, c, tk, h => by
    refine PT.weak (soundT a c tk (by simpa [chkE] using h)) fun σ H Q g => ?_
    exact bor_of (f := denT Φ G a) (i := i) (ok := fun _ => true) (fun W W1 W' W2 H' v d r k hF hA => r) g
  | .cmp op a b, X, sc, W0, e, c, tk, h => by
    cases e with
    | Compare a' ops bs' pos =>
      unfold chkE at h
      split at h
      · simp only [Bool.and_eq_true, decide_eq_true_eq, Bool.not_eq_true'] at h
        obtain ⟨⟨⟨rfl, h1⟩, h2⟩, h3⟩ := h
        obtain ⟨r, hr, hop⟩ := cmp_ok (X := X) (CA := CA) (by have := c.room.un; omega) op
        refine PT.weak (pt_cmpR hr (soundE a c tk h1) (soundE b c tk h2) (behind_ok h3)) ?_
        rintro σ H Q ⟨W, env, obs, S, g⟩
        have g : GP X.K CA W0 relT W env σ H Q (((denE Φ G a env obs).bind fun x o => (denE Φ G b env o).bind fun y o => R.opt o ((cmpD op x y).map .bl)).bind fun x o => R.opt o (truD x)) := g
        rw [R.bind_assoc] at g
        refine LG.bnd earlyT S g fun x o1 v W1 H1 l1 S1 r1 g1 => ?_
        rw [R.bind_assoc] at g1
        refine LG.bnd earlyT S1 g1 fun y o2 u W2 H2 l2 S2 r2 g2 => ?_
        cases hc : cmpD op x y with
        | none => rw [hc] at g2; exact g2.elim
        | some k =>
          rw [hc] at g2
          exact hop W2 σ H2 env o2 v u x y k _ S2 (l2.d.rep r1) r2 hc ⟨k, rfl, g2 _ W2 H2 .refl S2 rfl⟩
      · cases h
    | _ => simp [chkE] at h
  | .chn o1 o2 a b d, X, sc, W0, e, c, tk, h => by
    cases e with
    | Compare a' ops bs' pos =>
      unfold chkE at h
      split at h
      · simp only [Bool.and_eq_true, decide_eq_true_eq, Bool.not_eq_true'] at h
        obtain ⟨⟨⟨⟨⟨rfl, rfl⟩, h1⟩, h2⟩, h3⟩, h4⟩ := h
        obtain ⟨r, hr, hop⟩ := cmp_ok (X := X) (CA := CA) (by have := c.room.un; omega) o1
        obtain ⟨r', hr', hop'⟩ := cmp_ok (X := X) (CA := CA) (by have := c.room.un; omega) o2
        refine PT.weak (pt_chain hr hr' (soundE a c tk h1) (soundE b c tk h2) (soundE d c tk h3) (by unfold lastMarks; exact behind_ok h4)) ?_
        rintro σ H Q ⟨W, env, obs, S, g⟩
        have g : GP X.K CA W0 relT W env σ H Q (((denE Φ G a env obs).bind fun x o => (denE Φ G b env o).bind fun y o => match cmpD o1 x y with
          | some true => (denE Φ G d env o).bind fun z o => R.opt o ((cmpD o2 y z).map .bl)
          | some false => .ok (.bl false) o
          | none => .bad).bind fun x o => R.opt o (truD x)) := g
        rw [R.bind_assoc] at g
        refine LG.bnd earlyT S g fun x oo1 v W1 H1 l1 S1 r1 g1 => ?_
        rw [R.bind_assoc] at g1
        refine LG.bnd earlyT S1 g1 fun y oo2 u W2 H2 l2 S2 r2 g2 => ?_
        cases hc : cmpD o1 x y with
        | none => rw [hc] at g2; exact g2.elim
        | some k =>
          rw [hc] at g2
          refine hop W2 σ H2 env oo2 v u x y k _ S2 (l2.d.rep r1) r2 hc ⟨k, rfl, ?_⟩
          cases k with
          | false => exact ⟨false, rfl, g2 _ W2 H2 .refl S2 rfl⟩
          | true =>
            rw [if_pos rfl]
            simp only [R.bind_assoc] at g2
            refine LG.bnd earlyT S2 g2 fun z oo3 w W3 H3 l3 S3 r3 g3 => ?_
            cases hd : cmpD o2 y z with
            | none => rw [hd] at g3; exact g3.elim
            | some k =>
              rw [hd] at g3
              exact hop' W3 σ H3 env oo3 u w y z k _ S3 (l3.d.rep r2) r3 hd ⟨k, rfl, g3 _ W3 H3 .refl S3 rfl⟩
      · cases h
    | _ => simp [chkE] at h
  | .lit d, X, sc, W0, e, c, tk, h => by
    refine PT.weak (pt_truth (soundE (.lit d) c tk h) (plainT_ok (by cases e <;> first | rfl | (simp [chkE] at h) | (rename_i op _ _; cases op <;> first | rfl | (simp [chkE] at h))))) ?_
    rintro σ H Q ⟨W, env, obs, S, g⟩
    have g : GP X.K CA W0 relT W env σ H Q ((denE Φ G (.lit d) env obs).bind fun x o => R.opt o (truD x)) := g
    refine LG.bnd earlyT S g fun x o1 v W1 H1 l1 S1 r1 g1 => ?_
    cases ht : truD x with
    | none => rw [ht] at g1; exact g1.elim
    | some k => rw [ht] at g1; exact ⟨k, tru_of S1 r1 ht, g1 _ W1 H1 .refl S1 rfl⟩
  | .var i, X, sc, W0, e, c, tk, h => by
    refine PT.weak (pt_truth (soundE (.var i) c tk h) (plainT_ok (by cases e <;> first | rfl | (simp [chkE] at h) | (rename_i op _ _; cases op <;> first | rfl | (simp [chkE] at h))))) ?_
    rintro σ H Q ⟨W, env, obs, S, g⟩
    have g : GP X.K CA W0 relT W env σ H Q ((denE Φ G (.var i) env obs).bind fun x o => R.opt o (truD x)) := g
    refine LG.bnd earlyT S g fun x o1 v W1 H1 l1 S1 r1 g1 => ?_
    cases ht : truD x with
    | none => rw [ht] at g1; exact g1.elim
    | some k => rw [ht] at g1; exact ⟨k, tru_of S1 r1 ht, g1 _ W1 H1 .refl S1 rfl⟩
  | .glob x, X, sc, W0, e, c, tk, h => by
    refine PT.weak (pt_truth (soundE (.glob x) c tk h) (plainT_ok (by cases e <;> first | rfl | (simp [chkE] at h) | (rename_i op _ _; cases op <;> first | rfl | (simp [chkE] at h))))) ?_
    rintro σ H Q ⟨W, env, obs, S, g⟩
    have g : GP X.K CA W0 relT W env σ H Q ((denE Φ G (.glob x) env obs).bind fun x o => R.opt o (truD x)) := g
    refine LG.bnd earlyT S g fun x o1 v W1 H1 l1 S1 r1 g1 => ?_
    cases ht : truD x with
    | none => rw [ht] at g1; exact g1.elim
    | some k => rw [ht] at g1; exact ⟨k, tru_of S1 r1 ht, g1 _ W1 H1 .refl S1 rfl⟩
  | .bin op a b, X, sc, W0, e, c, tk, h => by
    refine PT.weak (pt_truth (soundE (.bin op a b) c tk h) (plainT_ok (by cases e <;> first | rfl | (simp [chkE] at h) | (rename_i op _ _; cases op <;> first | rfl | (simp [chkE] at h))))) ?_
    rintro σ H Q ⟨W, env, obs, S, g⟩
    have g : GP X.K CA W0 relT W env σ H Q ((denE Φ G (.bin op a b) env obs).bind fun x o => R.opt o (truD x)) := g
    refine LG.bnd earlyT S g fun x o1 v W1 H1 l1 S1 r1 g1 => ?_
    cases ht : truD x with
    | none => rw [ht] at g1; exact g1.elim
    | some k => rw [ht] at g1; exact ⟨k, tru_of S1 r1 ht, g1 _ W1 H1 .refl S1 rfl⟩
  | .neg a, X, sc, W0, e, c, tk, h => by
    refine PT.weak (pt_truth (soundE (.neg a) c tk h) (plainT_ok (by cases e <;> first | rfl | (simp [chkE] at h) | (rename_i op _ _; cases op <;> first | rfl | (simp [chkE] at h))))) ?_
    rintro σ H Q ⟨W, env, obs, S, g⟩
    have g : GP X.K CA W0 relT W env σ H Q ((denE Φ G (.neg a) env obs).bind fun x o => R.opt o (truD x)) := g
    refine LG.bnd earlyT S g fun x o1 v W1 H1 l1 S1 r1 g1 => ?_
    cases ht : truD x with
    | none => rw [ht] at g1; exact g1.elim
    | some k => rw [ht] at g1; exact ⟨k, tru_of S1 r1 ht, g1 _ W1 H1 .refl S1 rfl⟩
  | .tup es, X, sc, W0, e, c, tk, h => by
    refine PT.weak (pt_truth (soundE (.tup es) c tk h) (plainT_ok (by cases e <;> first | rfl | (simp [chkE] at h) | (rename_i op _ _; cases op <;> first | rfl | (simp [chkE] at h))))) ?_
    rintro σ H Q ⟨W, env, obs, S, g⟩
    have g : GP X.K CA W0 relT W env σ H Q ((denE Φ G (.tup es) env obs).bind fun x o => R.opt o (truD x)) := g
    refine LG.bnd earlyT S g fun x o1 v W1 H1 l1 S1 r1 g1 => ?_
    cases ht : truD x with
    | none => rw [ht] at g1; exact g1.elim
    | some k => rw [ht] at g1; exact ⟨k, tru_of S1 r1 ht, g1 _ W1 H1 .refl S1 rfl⟩
  | .lst es, X, sc, W0, e, c, tk, h => by
    refine PT.weak (pt_truth (soundE (.lst es) c tk h) (plainT_ok (by cases e <;> first | rfl | (simp [chkE] at h) | (rename_i op _ _; cases op <;> first | rfl | (simp [chkE] at h))))) ?_
    rintro σ H Q ⟨W, env, obs, S, g⟩
    have g : GP X.K CA W0 relT W env σ H Q ((denE Φ G (.lst es) env obs).bind fun x o => R.opt o (truD x)) := g
    refine LG.bnd earlyT S g fun x o1 v W1 H1 l1 S1 r1 g1 => ?_
    cases ht : truD x with
    | none => rw [ht] at g1; exact g1.elim
    | some k => rw [ht] at g1; exact ⟨k, tru_of S1 r1 ht, g1 _ W1 H1 .refl S1 rfl⟩
  | .ix a b, X, sc, W0, e, c, tk, h => by
    refine PT.weak (pt_truth (soundE (.ix a b) c tk h) (plainT_ok (by cases e <;> first | rfl | (simp [chkE] at h) | (rename_i op _ _; cases op <;> first | rfl | (simp [chkE] at h))))) ?_
    rintro σ H Q ⟨W, env, obs, S, g⟩
    have g : GP X.K CA W0 relT W env σ H Q ((denE Φ G (.ix a b) env obs).bind fun x o => R.opt o (truD x)) := g
    refine LG.bnd earlyT S g fun x o1 v W1 H1 l1 S1 r1 g1 => ?_
    cases ht : truD x with
    | none => rw [ht] at g1; exact g1.elim
    | some k => rw [ht] at g1; exact ⟨k, tru_of S1 r1 ht, g1 _ W1 H1 .refl S1 rfl⟩
  | .sl a lo hi, X, sc, W0, e, c, tk, h => by
    refine PT.weak (pt_truth (soundE (.sl a lo hi) c tk h) (plainT_ok (by cases e <;> first | rfl | (simp [chkE] at h) | (rename_i op _ _; cases op <;> first | rfl | (simp [chkE] at h))))) ?_
    rintro σ H Q ⟨W, env, obs, S, g⟩
    have g : GP X.K CA W0 relT W env σ H Q ((denE Φ G (.sl a lo hi) env obs).bind fun x o => R.opt o (truD x)) := g
    refine LG.bnd earlyT S g fun x o1 v W1 H1 l1 S1 r1 g1 => ?_
    cases ht : truD x with
    | none => rw [ht] at g1; exact g1.elim
    | some k => rw [ht] at g1; exact ⟨k, tru_of S1 r1 ht, g1 _ W1 H1 .refl S1 rfl⟩
  | .rev a, X, sc, W0, e, c, tk, h => by
    refine PT.weak (pt_truth (soundE (.rev a) c tk h) (plainT_ok (by cases e <;> first | rfl | (simp [chkE] at h) | (rename_i op _ _; cases op <;> first | rfl | (simp [chkE] at h))))) ?_
    rintro σ H Q ⟨W, env, obs, S, g⟩
    have g : GP X.K CA W0 relT W env σ H Q ((denE Φ G (.rev a) env obs).bind fun x o => R.opt o (truD x)) := g
    refine LG.bnd earlyT S g fun x o1 v W1 H1 l1 S1 r1 g1 => ?_
    cases ht : truD x with
    | none => rw [ht] at g1; exact g1.elim
    | some k => rw [ht] at g1; exact ⟨k, tru_of S1 r1 ht, g1 _ W1 H1 .refl S1 rfl⟩
  | .call f es, X, sc, W0, e, c, tk, h => by
    refine PT.weak (pt_truth (soundE (.call f es) c tk h) (plainT_ok (by cases e <;> first | rfl | (simp [chkE] at h) | (rename_i op _ _; cases op <;> first | rfl | (simp [chkE] at h))))) ?_
    rintro σ H Q ⟨W, env, obs, S, g⟩
    have g : GP X.K CA W0 relT W env σ H Q ((denE Φ G (.call f es) env obs).bind fun x o => R.opt o (truD x)) := g
    refine LG.bnd earlyT S g fun x o1 v W1 H1 l1 S1 r1 g1 => ?_
    cases ht : truD x with
    | none => rw [ht] at g1; exact g1.elim
    | some k => rw [ht] at g1; exact ⟨k, tru_of S1 r1 ht, g1 _ W1 H1 .refl S1 rfl⟩
  | .bi f es, X, sc, W0, e, c, tk, h => by
    refine PT.weak (pt_truth (soundE (.bi f es) c tk h) (plainT_ok (by cases e <;> first | rfl | (simp [chkE] at h) | (rename_i op _ _; cases op <;> first | rfl | (simp [chkE] at h))))) ?_
    rintro σ H Q ⟨W, env, obs, S, g⟩
    have g : GP X.K CA W0 relT W env σ H Q ((denE Φ G (.bi f es) env obs).bind fun x o => R.opt o (truD x)) := g
    refine LG.bnd earlyT S g fun x o1 v W1 H1 l1 S1 r1 g1 => ?_
    cases ht : truD x with
    | none => rw [ht] at g1; exact g1.elim
    | some k => rw [ht] at g1; exact ⟨k, tru_of S1 r1 ht, g1 _ W1 H1 .refl S1 rfl⟩
  | .isi a t, X, sc, W0, e, c, tk, h => by
    refine PT.weak (pt_truth (soundE (.isi a t) c tk h) (plainT_ok (by cases e <;> first | rfl | (simp [chkE] at h) | (rename_i op _ _; cases op <;> first | rfl | (simp [chkE] at h))))) ?_
    rintro σ H Q ⟨W, env, obs, S, g⟩
    have g : GP X.K CA W0 relT W env σ H Q ((denE Φ G (.isi a t) env obs).bind fun x o => R.opt o (truD x)) := g
    refine LG.bnd earlyT S g fun x o1 v W1 H1 l1 S1 r1 g1 => ?_
    cases ht : truD x with
    | none => rw [ht] at g1; exact g1.elim
    | some k => rw [ht] at g1; exact ⟨k, tru_of S1 r1 ht, g1 _ W1 H1 .refl S1 rfl⟩
  | .oix a b, X, sc, W0, e, c, tk, h => by
    refine PT.weak (pt_truth (soundE (.oix a b) c tk h) (plainT_ok (by cases e <;> first | rfl | (simp [chkE] at h) | (rename_i op _ _; cases op <;> first | rfl | (simp [chkE] at h))))) ?_
    rintro σ H Q ⟨W, env, obs, S, g⟩
    have g : GP X.K CA W0 relT W env σ H Q ((denE Φ G (.oix a b) env obs).bind fun x o => R.opt o (truD x)) := g
    refine LG.bnd earlyT S g fun x o1 v W1 H1 l1 S1 r1 g1 => ?_
    cases ht : truD x with
    | none => rw [ht] at g1; exact g1.elim
    | some k => rw [ht] at g1; exact ⟨k, tru_of S1 r1 ht, g1 _ W1 H1 .refl S1 rfl⟩
  | .olen a, X, sc, W0, e, c, tk, h => by
    refine PT.weak (pt_truth (soundE (.olen a) c tk h) (plainT_ok (by cases e <;> first | rfl | (simp [chkE] at h) | (rename_i op _ _; cases op <;> first | rfl | (simp [chkE] at h))))) ?_
    rintro σ H Q ⟨W, env, obs, S, g⟩
    have g : GP X.K CA W0 relT W env σ H Q ((denE Φ G (.olen a) env obs).bind fun x o => R.opt o (truD x)) := g
    refine LG.bnd earlyT S g fun x o1 v W1 H1 l1 S1 r1 g1 => ?_
    cases ht : truD x with
    | none => rw [ht] at g1; exact g1.elim
    | some k => rw [ht] at g1; exact ⟨k, tru_of S1 r1 ht, g1 _ W1 H1 .refl S1 rfl⟩
  | .onew es, X, sc, W0, e, c, tk, h => by
    refine PT.weak (pt_truth (soundE (.onew es) c tk h) (plainT_ok (by cases e <;> first | rfl | (simp [chkE] at h) | (rename_i op _ _; cases op <;> first | rfl | (simp [chkE] at h))))) ?_
    rintro σ H Q ⟨W, env, obs, S, g⟩
    have g : GP X.K CA W0 relT W env σ H Q ((denE Φ G (.onew es) env obs).bind fun x o => R.opt o (truD x)) := g
    refine LG.bnd earlyT S g fun x o1 v W1 H1 l1 S1 r1 g1 => ?_
    cases ht : truD x with
    | none => rw [ht] at g1; exact g1.elim
    | some k => rw [ht] at g1; exact ⟨k, tru_of S1 r1 ht, g1 _ W1 H1 .refl S1 rfl⟩
  | .olist a, X, sc, W0, e, c, tk, h => by
    refine PT.weak (pt_truth (soundE (.olist a) c tk h) (plainT_ok (by cases e <;> first | rfl | (simp [chkE] at h) | (rename_i op _ _; cases op <;> first | rfl | (simp [chkE] at h))))) ?_
    rintro σ H Q ⟨W, env, obs, S, g⟩
    have g : GP X.K CA W0 relT W env σ H Q ((denE Φ G (.olist a) env obs).bind fun x o => R.opt o (truD x)) := g
    refine LG.bnd earlyT S g fun x o1 v W1 H1 l1 S1 r1 g1 => ?_
    cases ht : truD x with
    | none => rw [ht] at g1; exact g1.elim
    | some k => rw [ht] at g1; exact ⟨k, tru_of S1 r1 ht, g1 _ W1 H1 .refl S1 rfl⟩
  | .om m a b, X, sc, W0, e, c, tk, h => by
    refine PT.weak (pt_truth (soundE (.om m a b) c tk h) (plainT_ok (by cases e <;> first | rfl | (simp [chkE] at h) | (rename_i op _ _; cases op <;> first | rfl | (simp [chkE] at h))))) ?_
    rintro σ H Q ⟨W, env, obs, S, g⟩
    have g : GP X.K CA W0 relT W env σ H Q ((denE Φ G (.om m a b) env obs).bind fun x o => R.opt o (truD x)) := g
    refine LG.bnd earlyT S g fun x o1 v W1 H1 l1 S1 r1 g1 => ?_
    cases ht : truD x with
    | none => rw [ht] at g1; exact g1.elim
    | some k => rw [ht] at g1; exact ⟨k, tru_of S1 r1 ht, g1 _ W1 H1 .refl S1 rfl⟩
  | .mth T m a es, X, sc, W0, e, c, tk, h => by
    refine PT.weak (pt_truth (soundE (.mth T m a es) c tk h) (plainT_ok (by cases e <;> first | rfl | (simp [chkE] at h) | (rename_i op _ _; cases op <;> first | rfl | (simp [chkE] at h))))) ?_
    rintro σ H Q ⟨W, env, obs, S, g⟩
    have g : GP X.K CA W0 relT W env σ H Q ((denE Φ G (.mth T m a es) env obs).bind fun x o => R.opt o (truD x)) := g
    refine LG.bnd earlyT S g fun x o1 v W1 H1 l1 S1 r1 g1 => ?_
    cases ht : truD x with
    | none => rw [ht] at g1; exact g1.elim
    | some k => rw [ht] at g1; exact ⟨k, tru_of S1 r1 ht, g1 _ W1 H1 .refl S1 rfl⟩
  | .lc x tg it k own, X, sc, W0, e, c, tk, h => by
    refine PT.weak (pt_truth (soundE (.lc x tg it k own) c tk h) (plainT_ok (by cases e <;> first | rfl | (simp [chkE] at h) | (rename_i op _ _; cases op <;> first | rfl | (simp [chkE] at h))))) ?_
    rintro σ H Q ⟨W, env, obs, S, g⟩
    have g : GP X.K CA W0 relT W env σ H Q ((denE Φ G (.lc x tg it k own) env obs).bind fun x o => R.opt o (truD x)) := g
    refine LG.bnd earlyT S g fun x o1 v W1 H1 l1 S1 r1 g1 => ?_
    cases ht : truD x with
    | none => rw [ht] at g1; exact g1.elim
    | some k => rw [ht] at g1; exact ⟨k, tru_of S1 r1 ht, g1 _ W1 H1 .refl S1 rfl⟩
  | .lc2 x tg it k tg1 it1 k1 own vs1, X, sc, W0, e, c, tk, h => by
    refine PT.weak (pt_truth (soundE (.lc2 x tg it k tg1 it1 k1 own vs1) c tk h) (plainT_ok (by cases e <;> first | rfl | (simp [chkE] at h) | (rename_i op _ _; cases op <;> first | rfl | (simp [chkE] at h))))) ?_
    rintro σ H Q ⟨W, env, obs, S, g⟩
    have g : GP X.K CA W0 relT W env σ H Q ((denE Φ G (.lc2 x tg it k tg1 it1 k1 own vs1) env obs).bind fun x o => R.opt o (truD x)) := g
    refine LG.bnd earlyT S g fun x o1 v W1 H1 l1 S1 r1 g1 => ?_
    cases ht : truD x with
    | none => rw [ht] at g1; exact g1.elim
    | some k => rw [ht] at g1; exact ⟨k, tru_of S1 r1 ht, g1 _ W1 H1 .refl S1 rfl⟩
  | .sset a, X, sc, W0, e, c, tk, h => by
    refine PT.weak (pt_truth (soundE (.sset a) c tk h) (plainT_ok (by cases e <;> first | rfl | (simp [chkE] at h) | (rename_i op _ _; cases op <;> first | rfl | (simp [chkE] at h))))) ?_
    rintro σ H Q ⟨W, env, obs, S, g⟩
    have g : GP X.K CA W0 relT W env σ H Q ((denE Φ G (.sset a) env obs).bind fun x o => R.opt o (truD x)) := g
    refine LG.bnd earlyT S g fun x o1 v W1 H1 l1 S1 r1 g1 => ?_
    cases ht : truD x with
    | none => rw [ht] at g1; exact g1.elim
    | some k => rw [ht] at g1; exact ⟨k, tru_of S1 r1 ht, g1 _ W1 H1 .refl S1 rfl⟩
theorem soundI : ∀ (m : It) {X : Cx} {sc : Scope} {W0 : WX} {tg e : Expr}, Ctx CA fs bs N G Φ n sc X → Takes X W0 → chkI fs bs N sc m tg e = true → PI X tg e (LG X.K CA W0 (relI X.K CA) (denI Φ G m))
  | .sq a, X, sc, W0, tg, e, c, tk, h => by
    simp only [chkI, Bool.and_eq_true] at h
    refine PI.weak (PI.or (pi_list (soundE a c tk h.1)) (pi_tup (soundE a c tk h.1))) ?_
    rintro σ H R ⟨W, env, obs, S, g⟩
    have g : GP X.K CA W0 (relI X.K CA) W env σ H R ((denE Φ G a env obs).bind fun x o => match x with | .lst ds => .ok ds o | .tup ds => .ok ds o | _ => .bad) := g
    have left : (∀ x o, denE Φ G a env obs = .ok x o → ∃ ds, x = .lst ds) → iList X.K (LE X.K CA W0 (denE Φ G a)) σ H R := fun hh => by
      refine LG.bnd' earlyI S g fun x o1 v W1 H1 he l1 S1 r1 g1 => ?_
      obtain ⟨ds, rfl⟩ := hh x o1 he
      obtain ⟨p, vs, rfl, hF, rs⟩ := Rep.to_lst r1
      exact ⟨p, rfl, ⟨vs, SqL.of (S1.fh _ _ hF)⟩, g1 _ W1 H1 .refl S1 (wlk_list hF rs)⟩
    have right : (∀ x o, denE Φ G a env obs = .ok x o → ∃ ds, x = .tup ds) → iTup X.K (LE X.K CA W0 (denE Φ G a)) σ H R := fun hh => by
      refine LG.bnd' earlyI S g fun x o1 v W1 H1 he l1 S1 r1 g1 => ?_
      obtain ⟨ds, rfl⟩ := hh x o1 he
      obtain ⟨p, vs, rfl, hF, rs⟩ := Rep.to_tup r1
      exact ⟨p, rfl, ⟨vs, SqT.mono hF S1.fh⟩, g1 _ W1 H1 .refl S1 (wlk_tup hF rs)⟩
    cases he : denE Φ G a env obs with
    | bad => exact .inl (left fun x o z => by rw [he] at z; cases z)
    | ex _ _ _ => exact .inl (left fun x o z => by rw [he] at z; cases z)
    | ok d o =>
      cases d with
      | lst ds => exact .inl (left fun x o z => by rw [he] at z; cases z; exact ⟨_, rfl⟩)
      | tup ds => exact .inr (right fun x o z => by rw [he] at z; cases z; exact ⟨_, rfl⟩)
      | _ => rw [he] at g; exact g.elim
  | .r1 a, X, sc, W0, tg, e, c, tk, h => by
    cases e with
    | Call f es' kws pos =>
      cases f with
      | Name x p =>
        cases kws with
        | cons _ _ => simp [chkI] at h
        | nil =>
          unfold chkI at h
          split at h
          · simp only [Bool.and_eq_true, Bool.not_eq_true', beq_iff_eq] at h
            obtain ⟨⟨⟨⟨rfl, h1⟩, h2⟩, h3⟩, h4⟩ := h
            refine PI.weak (pi_range1 (glB_ok c.hsc h1) (c.mo.bi _ (by simpa using h2)) (pa_cons (soundE a c tk h3) pa_nil (star_ok h4)) (star_ok h4)) ?_
            rintro σ H R ⟨W, env, obs, S, g⟩
            refine LG.bnd earlyI S g fun x o1 v W1 H1 l1 S1 r1 g1 => ?_
            cases x with
            | int k =>
              cases r1
              simp only at g1
              split at g1
              · rename_i hs
                have hs := smallI_ok hs
                exact ⟨k, rfl, hs.1, hs.2, g1 _ W1 H1 .refl S1 wlk_range⟩
              · exact g1.elim
            | _ => exact g1.elim
          · cases h
      | _ => simp [chkI] at h
    | _ => simp [chkI] at h
  | .r2 a b, X, sc, W0, tg, e, c, tk, h => by
    cases e with
    | Call f es' kws pos =>
      cases f with
      | Name x p =>
        cases kws with
        | cons _ _ => simp [chkI] at h
        | nil =>
          unfold chkI at h
          split at h
          · simp only [Bool.and_eq_true, Bool.not_eq_true', beq_iff_eq] at h
            obtain ⟨⟨⟨⟨⟨⟨rfl, h1⟩, h2⟩, h3⟩, h4⟩, h5⟩, h6⟩ := h
            refine PI.weak (pi_range2 (glB_ok c.hsc h1) (c.mo.bi _ (by simpa using h2)) (pa_cons (soundE a c tk h3) (pa_cons (soundE b c tk h5) pa_nil (star_ok h6)) (star_ok h4)) (by rw [star_ok h4, star_ok h6]; rfl) (star_ok h6)) ?_
            rintro σ H R ⟨W, env, obs, S, g⟩
            refine LG.bnd earlyI S g fun x o1 v W1 H1 l1 S1 r1 g1 => ?_
            refine LG.bnd earlyI S1 g1 fun y o2 u W2 H2 l2 S2 r2 g2 => ?_
            cases x with
            | int k =>
              cases y with
              | int j =>
                cases r1; cases r2
                simp only at g2
                split at g2
                · rename_i hs
                  rw [Bool.and_eq_true] at hs
                  have hs1 := smallI_ok hs.1
                  have hs2 := smallI_ok hs.2
                  exact ⟨k, j, rfl, ⟨hs1.1, hs1.2, hs2.1, hs2.2⟩, g2 _ W2 H2 .refl S2 wlk_range⟩
                · exact g2.elim
              | _ => exact g2.elim
            | _ => exact g2.elim
          · cases h
      | _ => simp [chkI] at h
    | _ => simp [chkI] at h
  | .r3 a b d, X, sc, W0, tg, e, c, tk, h => by
    cases e with
    | Call f es' kws pos =>
      cases f with
      | Name x p =>
        cases kws with
        | cons _ _ => simp [chkI] at h
        | nil =>
          unfold chkI at h
          split at h
          · simp only [Bool.and_eq_true, Bool.not_eq_true', beq_iff_eq] at h
            obtain ⟨⟨⟨⟨⟨⟨⟨⟨rfl, h1⟩, h2⟩, h3⟩, h4⟩, h5⟩, h6⟩, h7⟩, h8⟩ := h
            refine PI.weak (pi_range3 (glB_ok c.hsc h1) (c.mo.bi _ (by simpa using h2)) (pa_cons (soundE a c tk h3) (pa_cons (soundE b c tk h5) (pa_cons (soundE d c tk h7) pa_nil (star_ok h8)) (star_ok h6)) (star_ok h4)) (star_ok h4) (plain_of (by intro y hy; simp only [List.mem_cons, List.not_mem_nil, or_false] at hy; rcases hy with rfl | rfl; exact h6; exact h8))) ?_
            rintro σ H R ⟨W, env, obs, S, g⟩
            refine LG.bnd earlyI S g fun x o1 v W1 H1 l1 S1 r1 g1 => ?_
            refine LG.bnd earlyI S1 g1 fun y o2 u W2 H2 l2 S2 r2 g2 => ?_
            refine LG.bnd earlyI S2 g2 fun z o3 w W3 H3 l3 S3 r3 g3 => ?_
            cases x with
            | int k =>
              cases y with
              | int j =>
                cases z with
                | int m =>
                  cases r1; cases r2; cases r3
                  simp only at g3
                  split at g3
                  · rename_i hs
                    rw [Bool.and_eq_true] at hs
                    have hs2 := of_decide_eq_true hs.2
                    exact ⟨k, j, m, (Builtin.Range.rangeSize k j m).toNat, rfl, ⟨hs2.1, hs2.2.1, hs.1, by rw [Int.toNat_of_nonneg hs2.2.2]⟩, g3 _ W3 H3 .refl S3 wlk_rangeC⟩
                  · exact g3.elim
                | _ => exact g3.elim
              | _ => exact g3.elim
            | _ => exact g3.elim
          · cases h
      | _ => simp [chkI] at h
    | _ => simp [chkI] at h
  | .en a, X, sc, W0, tg, e, c, tk, h => by
    cases tg with
    | Tuple elts kk tpos =>
      cases e with
      | Call f es' kws pos =>
        cases f with
        | Name x p =>
          cases kws with
          | cons _ _ => simp [chkI] at h
          | nil =>
            unfold chkI at h
            split at h
            · simp only [Bool.and_eq_true, Bool.not_eq_true', beq_iff_eq] at h
              obtain ⟨⟨⟨⟨rfl, h1⟩, h2⟩, h3⟩, h4⟩ := h
              refine PI.weak (pi_enumT (glB_ok c.hsc h1) (c.mo.bi _ (by simpa using h2)) (pa_cons (soundE a c tk h3) pa_nil (star_ok h4)) (star_ok h4)) ?_
              rintro σ H R ⟨W, env, obs, S, g⟩
              refine LG.bnd earlyI S g fun x o1 v W1 H1 l1 S1 r1 g1 => ?_
              cases x with
              | lst ds =>
                obtain ⟨p, vs, rfl, hF, rs⟩ := Rep.to_lst r1
                exact ⟨p, rfl, .inl ⟨vs, SqL.of (S1.fh _ _ hF), g1 _ W1 H1 .refl S1 (wlk_enum hF rs)⟩⟩
              | tup ds =>
                obtain ⟨p, vs, rfl, hF, rs⟩ := Rep.to_tup r1
                exact ⟨p, rfl, .inr ⟨vs, SqT.mono hF S1.fh, g1 _ W1 H1 .refl S1 (wlk_enumT hF rs)⟩⟩
              | _ => exact g1.elim
            · cases h
        | _ => simp [chkI] at h
      | _ => simp [chkI] at h
    | _ => simp [chkI] at h
end
end
end Mp

set_option Elab.async false
set_option linter.all false
set_option maxRecDepth 100000
set_option maxHeartbeats 4000000
/-! Statements. -/
namespace Mp
open PySem PySem.Spec PyProof.Rows L2

/-! ### which statements -/
def lclB (sc : Scope) (x : Str) : Bool := match sc.names.lookup x with | some .local => true | _ => false
/-- the stores of a parallel assignment that the model swaps -/
def swP (ts vs : List Expr) (sc : Scope) : Option (Option (List Str)) :=
  if !(ts.length == 2 || ts.length == 3) || vs.length != ts.length then some none else
  if vs.any isStar then some none else
  let line := (ts.head?.map (·.pos.line)).getD 0
  let names := ts.filterMap fun
    | .Name id pos => if sc.names.lookup id == some .local && pos.line == line then some id else none
    | _ => none
  if names.length != ts.length || names.eraseDups.length != names.length then some none else
  if vs.all (foldedForSure 8) then some none else
  if vs.all (constantsAlone 8) then none else some (some names)
theorem swP_ok {ts vs : List Expr} {env : PySem.Env} {k k2 : Nat} {p p2 : Pos} {r : Option (List Str)} (hk : env.scope.kind = .function) (h : swP ts vs env.scope = some r) : swappedStores [.Tuple ts k p] (.Tuple vs k2 p2) env = pure r := by
  have hb : env.blockKind = .function := by
    unfold Env.blockKind
    rw [hk]; rfl
  unfold swP at h
  unfold swappedStores
  show (if (!(ts.length == 2 || ts.length == 3) || vs.length != ts.length || env.blockKind != .function) = true then _ else _) = _
  rw [hb]
  simp only [bne_self_eq_false, Bool.or_false]
  split at h
  · rename_i c
    cases h
    rw [if_pos c]
  · rename_i c
    rw [if_neg c]
    split at h
    · rename_i c2
      cases h
      exact if_pos c2
    · rename_i c2
      refine Eq.trans (if_neg c2) ?_
      simp only at h
      split at h
      · rename_i c3
        cases h
        exact if_pos c3
      · rename_i c3
        refine Eq.trans (if_neg c3) ?_
        split at h
        · rename_i c4
          cases h
          exact if_pos c4
        · rename_i c4
          refine Eq.trans (if_neg c4) ?_
          split at h
          · cases h
          · rename_i c5
            cases h
            exact if_neg c5
theorem swN_ok {tg e : Expr} {env : PySem.Env} (h : (match e with | .Tuple _ _ _ => false | _ => true) = true) : swappedStores [tg] e env = pure none := by
  cases e <;> first | (cases tg <;> rfl) | (simp at h)
/-- whether a comprehension is stored from within -/
def swB (sc : Scope) (x : Str) (px : Pos) : Expr → Bool
  | .ListComp _ _ s pos => lclB sc x && px.line == pos.line && !(s.names.any fun (n, k) => n == x && (k == .local || k == .cell))
  | .SetComp _ _ _ _ => true | .DictComp _ _ _ _ _ => true | _ => false
theorem sw_false {e : Expr} {x : Str} {px : Pos} {l : Nat} {env : PySem.Env} (hk : env.scope.kind = .function) (h : swB env.scope x px e = false) : swapsWith e (some (.Name x px)) l env = pure false := by
  cases e with
  | ListComp el gs s pos =>
    show (pure (env.blockKind == .function && env.kindOf x == some .local && px.line == pos.line && !(s.names.any fun (n, k) => n == x && (k == .local || k == .cell))) : Sem Bool) = pure false
    congr 1
    have hb : env.blockKind = .function := by unfold Env.blockKind; rw [hk]; rfl
    rw [hb]
    unfold swB lclB at h
    unfold Env.kindOf
    cases q : env.scope.names.lookup x with
    | none => rfl
    | some kd =>
      rw [q] at h
      cases kd <;> first | rfl | (simpa using h)
  | SetComp _ _ _ _ => simp [swB] at h
  | DictComp _ _ _ _ _ => simp [swB] at h
  | _ => rfl
theorem sw_none {e : Expr} {l : Nat} {env : PySem.Env} (h : isCompr e = false) : swapsWith e none l env = pure false := by
  cases e <;> first | rfl | (simp [isCompr] at h)
theorem sw_sub {e a b : Expr} {p : Pos} {l : Nat} {env : PySem.Env} : swapsWithSole [.Subscript a b p] e l env = pure false := by
  cases e <;> rfl
theorem sw_tup {e : Expr} {ts : List Expr} {k : Nat} {p : Pos} {l : Nat} {env : PySem.Env} : swapsWithSole [.Tuple ts k p] e l env = pure false := by
  cases e <;> rfl
def idents : List Expr → List Str
  | [] => []
  | .Name x _ :: r => x :: idents r
  | _ :: r => idents r
section
variable (fs bs : List Str) (N : List Str)
def chkNms (sc : Scope) : List Nat → List Expr → Bool
  | [], [] => true
  | i :: is, .Name x _ :: es => decide (N[i]? = some x) && locB sc x && chkNms sc is es
  | _, _ => false
def chkF (sc : Scope) : Fr → Expr → Bool
  | .dsp es, .List es' _ => chkEs fs bs N sc es es'
  | .lc x tg it c own, e => chkE fs bs N sc (.lc x tg it c own) e
  | .lo a, .Call (.Name x _) es' [] _ => match es' with
    | [a'] => x == ("list" : Str) && glB sc x && bs.contains x && chkE fs bs N sc a a' && !isStar a'
    | _ => false
  | _, _ => false
def chkPs (sc : Scope) : List (E ⊕ Fr) → List Expr → Bool
  | [], [] => true
  | .inl e :: r, e' :: r' => chkE fs bs N sc e e' && !isStar e' && chkPs sc r r'
  | .inr f :: r, e' :: r' => chkF fs bs N sc f e' && !isStar e' && chkPs sc r r'
  | _, _ => false
def chkTgS (sc : Scope) (tg : Tg) (e : Expr) : Bool := chkTg sc N tg.sl tg e
def chkPar (sc : Scope) (ts : List Nat) (es : List (E ⊕ Fr)) (ts' es' : List Expr) : Bool :=
  chkNms N sc ts ts' && chkPs fs bs N sc es es' && decide (ts.length = es.length) && decide (ts.length ≤ 100) && match swP ts' es' sc with
    | some none => true
    | some (some ns) => decide (ns = idents ts') && (idents ts').all (lclB sc) && decide (ts.Nodup) && (ts.length == 2 || ts.length == 3)
    | none => false
def litB : D → Const → Bool
  | .non, .none => true
  | .bl b, .bool c => b == c
  | .int b, .int c => b == c
  | .str b, .str c => b == c
  | _, _ => false
def litV : D → V
  | .bl b => .bl b | .int i => .int i | .str x => .str x | _ => .non
theorem lit_ok {X : Cx} {d : D} {k : Const} {j : Nat} {pos : Pos} (h : litB d k = true) : PE X (.Constant k j pos) (tC (litV d)) ∧ ∀ (K : PySem.W.Frag) (W : Wd), W.rep K (litV d) d := by
  cases d with
  | non => cases k with
    | none => exact ⟨pe_non, fun _ _ => .non⟩
    | _ => cases h
  | bl b => cases k with
    | bool c =>
      obtain rfl : b = c := by simpa [litB] using h
      exact ⟨pe_bl, fun _ _ => .bl _⟩
    | _ => cases h
  | int b => cases k with
    | int c =>
      obtain rfl : b = c := by simpa [litB] using h
      exact ⟨pe_int, fun _ _ => .int _⟩
    | _ => cases h
  | str b => cases k with
    | str c =>
      obtain rfl : b = c := by simpa [litB] using h
      exact ⟨pe_str, fun _ _ => .str _⟩
    | _ => cases h
  | _ => cases h
/-- an except suite -/
def chkHd (N : List Str) (sc : Scope) : Hd → Option Str → List Stmt → Bool
  | .fld i j, some n, [.Assign [.Name y py] (.Attribute (.Name e p1) f p2) _] => decide (N[i]? = some n) && lclB sc n && e == n && !dbg n && !(n == ("__classdict__" : Str)) && f == ("place" : Str) && decide (N[j]? = some y) && locB sc y && !swB sc y py (.Attribute (.Name e p1) f p2)
  | .set j d, none, [.Assign [.Name y py] (.Constant k q p2) _] => decide (N[j]? = some y) && locB sc y && !swB sc y py (.Constant k q p2) && litB d k
  | .ret d, none, [.Return (some (.Constant k _ _)) _] => litB d k
  | _, _, _ => false
mutual
def chkS (sc : Scope) : S → Stmt → Bool
  | .rse c e, .Raise (some (.Call (.Name x _) es' [] _)) none _ => match es' with
    | [e'] => c == x && glB sc x && !dbg x && bs.contains (clsNm c) && chkE fs bs N sc e e' && !isStar e'
    | _ => false
  | .trye b c h, .Try b' hs' [] [] _ => match hs' with
    | [.ExceptHandler (some (.Name x _)) nm su _] => c == x && glB sc x && !dbg x && bs.contains (clsNm c) && chkSs sc b b' && chkHd N sc h nm su
    | _ => false
  | .set i e, .Assign tgs e' _ => match tgs with
    | [.Name x px] => decide (N[i]? = some x) && locB sc x && chkE fs bs N sc e e' && (!swB sc x px e' || (match e, e' with | .lc _ _ _ _ _, .ListComp _ _ _ _ => true | _, _ => false))
    | _ => false
  | .new i f, .Assign tgs e' _ => match tgs with
    | [.Name x px] => decide (N[i]? = some x) && locB sc x && chkF fs bs N sc f e' && (!swB sc x px e' || (match f, e' with | .lc _ _ _ _ _, .ListComp _ _ _ _ => true | _, _ => false))
    | _ => false
  | .tup ts e, .Assign tgs e' _ => match tgs with
    | [.Tuple ts' k p] => chkTgS N sc (.tp ts) (.Tuple ts' k p) && chkE fs bs N sc e e' && (match e' with | .Tuple _ _ _ => false | _ => true)
    | _ => false
  | .tgt tg e, .Assign tgs e' _ => match tgs with
    | [.Tuple ts' k p] => chkTgS N sc tg (.Tuple ts' k p) && chkE fs bs N sc e e' && (match e' with | .Tuple es' _ _ => (match swP ts' es' sc with | some none => true | _ => false) | _ => true)
    | _ => false
  | .par ts es, .Assign tgs e' _ => match tgs, e' with
    | [.Tuple ts' _ _], .Tuple es' _ _ => chkPar fs bs N sc ts es ts' es'
    | _, _ => false
  | .aug i op e, .AugAssign (.Name x _) op' e' _ => decide (N[i]? = some x) && locB sc x && decide (op = op') && chkE fs bs N sc e e'
  | .app i e, .Expr (.Call (.Attribute (.Name x _) m apos) es' [] cpos) _ => match es' with
    | [e'] => decide (N[i]? = some x) && visB sc x && !dbg x && !(x == ("__classdict__" : Str)) && m == ("append" : Str) && apos.endLine == cpos.line && chkE fs bs N sc e e' && !isStar e'
    | _ => false
  | .ext i e, .Expr (.Call (.Attribute (.Name x _) m apos) es' [] cpos) _ => match es' with
    | [e'] => decide (N[i]? = some x) && visB sc x && !dbg x && !(x == ("__classdict__" : Str)) && m == ("extend" : Str) && apos.endLine == cpos.line && chkE fs bs N sc e e' && !isStar e'
    | _ => false
  | .put i k e, .Assign tgs e' _ => match tgs with
    | [.Subscript (.Name x _) k' _] => decide (N[i]? = some x) && visB sc x && !dbg x && !(x == ("__classdict__" : Str)) && chkE fs bs N sc k k' && chkE fs bs N sc e e' && !isSlice k' && (match e' with | .Tuple _ _ _ => false | _ => true)
    | _ => false
  | .oput a k e, .Assign tgs e' _ => match tgs with
    | [.Subscript a' k' _] => chkE fs bs N sc a a' && chkE fs bs N sc k k' && chkE fs bs N sc e e' && !isSlice k' && (match e' with | .Tuple _ _ _ => false | _ => true)
    | _ => false
  | .ret e, .Return (some e') _ => chkE fs bs N sc e e'
  | .ret0, .Return none _ => true
  | .mv i, .Return (some (.Name x _)) _ => decide (N[i]? = some x) && visB sc x && !dbg x && !(x == ("__classdict__" : Str))
  | .ife c a b, .If c' a' b' _ => chkE fs bs N sc c c' && chkSs sc a a' && chkSs sc b b'
  | .whl c b, .While c' b' [] _ => chkE fs bs N sc c c' && chkSs sc b b'
  | .for_ tg it b, .For tg' it' b' [] _ => chkI fs bs N sc it tg' it' && chkTgS N sc tg tg' && chkSs sc b b'
  | .exp e, .Expr e' _ => chkE fs bs N sc e e' && !isCompr e'
  | .pass, .Pass _ => true
  | .brk, .Break _ => true
  | .cnt, .Continue _ => true
  | _, _ => false
  termination_by structural s => s
def chkSs (sc : Scope) : Ss → List Stmt → Bool
  | .nil, [] => true
  | .cons s r, s' :: r' => chkS sc s s' && chkSs sc r r'
  | .frz _ r, r' => chkSs sc r r'
  | _, _ => false
  termination_by structural s => s
end
end

/-! ### parts of a proof -/
section
variable {K : PySem.W.Frag} {CA : Str → Option Addr} {W0 : WX} {W W1 : Wd} {H H1 : Hp} {obs : Obs} {env : Env} {σ : L2.St} {α β : Type} {rel : Rl α β}
theorem LPost.mono {D : Ends} (l : W.leS W1) : ∀ {r : RS}, LPost K CA W0 W D r → LPost K CA W0 W1 D r
  | .nx e o, h => fun σ' W' H' l' S => h σ' W' H' (l.trans l') S
  | .rt d o, h => fun v W' H' l' S r => h v W' H' (l.trans l') S r
  | .bk e o, h => fun σ' W' H' l' S => h σ' W' H' (l.trans l') S
  | .ct e o, h => fun σ' W' H' l' S => h σ' W' H' (l.trans l') S
  | .ex c a e o, h => fun cls dd σ' W' H' l' S x => h cls dd σ' W' H' (l.trans l') S x
  | .bad, h => h
/-- an expression, then a statement's rest -/
theorem LS.bnd {D : Ends} {T : β → Hp → Prop} {fa : Env → Obs → R α} {k : α → Obs → RS} (S : SRel K CA W σ H env obs) (h : LPost K CA W0 W D ((fa env obs).st env k))
    (kk : ∀ a o1 v W1 H1, W.leE W1 H H1 → SRel K CA W1 σ H1 env o1 → rel W W1 H1 v a → LPost K CA W0 W1 D (k a o1) → T v H1) : LG K CA W0 rel fa σ H T := by
  refine ⟨W, env, obs, S, ?_⟩
  cases e : fa env obs with
  | ok a o => exact fun v W' H' l S' r => kk a o v W' H' l S' r (LPost.mono l.s (by rw [e] at h; exact h))
  | ex c a o => rw [e] at h; exact fun cls dd W' H' l S' x => h cls dd σ W' H' l.s S' x
  | bad => rw [e] at h; exact h
theorem SRel.put_own {p : Addr} {vs : List V} {ds : List D} {i : Nat} (S : SRel K CA W σ H env obs) (ra : W.ρ p = some .acc) (hp : H p = some (.lst vs)) (rs : W.reps K vs ds) :
    ∃ W2, W.leS W2 ∧ SRel K CA W2 (σ.set i (some (.ref p))) H (env.set i (.ol ds)) obs ∧ (∀ q r, q ≠ p → W.ρ q = some r → W2.ρ q = some r) := by
  have ls := leS_turn (r := .own i) ra rfl
  have S2 := S.turn (r := .own i) ra rfl (fun i s z => nomatch z) (fun u z => nomatch z) (fun u z => nomatch z)
  exact ⟨W.put p (.own i), ls, S2.set ⟨p, vs, rfl, Wd.put_same, hp, ls.d.reps rs⟩, fun q r hq e => by rw [Wd.put_ne hq]; exact e⟩
/-- parts stored at once -/
def PRel (K : PySem.W.Frag) (W' : Wd) (H' : Hp) : List V → List Sl → List Addr → Prop
  | [], [], [] => True
  | v :: vs, .v d :: ss, ps => W'.rep K v d ∧ PRel K W' H' vs ss ps
  | v :: vs, .ol ds :: ss, p :: ps => v = .ref p ∧ (∃ us, H' p = some (.lst us) ∧ W'.reps K us ds) ∧ PRel K W' H' vs ss ps
  | _, _, _ => False
abbrev relP (K : PySem.W.Frag) : Rl (List Sl) (List V) := fun W W' H' vs ss => ∃ ps : List Addr, ps.Nodup ∧ (∀ p ∈ ps, W.ρ p = none ∧ W'.ρ p = some .acc) ∧ PRel K W' H' vs ss ps
theorem earlyP : Rl.Early (relP K) := fun W W1 _ _ _ _ _ _ l ⟨ps, n, h, q⟩ => ⟨ps, n, fun p hp => ⟨(by
  cases z : W.ρ p with
  | none => rfl
  | some r => have := (h p hp).1; rw [l.r p r z] at this; cases this), (h p hp).2⟩, q⟩
theorem PRel.mono {W' W2 : Wd} {H' H2 : Hp} (dl : W'.dle W2) : ∀ {vs : List V} {ss : List Sl} {ps : List Addr}, (∀ p ∈ ps, H2 p = H' p) → PRel K W' H' vs ss ps → PRel K W2 H2 vs ss ps
  | [], [], [], _, _ => trivial
  | v :: vs, .v d :: ss, ps, hh, h => ⟨dl.rep h.1, PRel.mono dl hh h.2⟩
  | v :: vs, .ol ds :: ss, p :: ps, hh, h => ⟨h.1, (by obtain ⟨us, a, b⟩ := h.2.1; exact ⟨us, (hh p List.mem_cons_self).trans a, dl.reps b⟩), PRel.mono dl (fun q hq => hh q (List.mem_cons_of_mem _ hq)) h.2.2⟩
  | [], [], _ :: _, _, h => h.elim
  | [], _ :: _, _, _, h => h.elim
  | _ :: _, [], _, _, h => h.elim
  | _ :: _, .un :: _, _, _, h => h.elim
  | _ :: _, .od _ :: _, _, _, h => h.elim
  | _ :: _, .ol _ :: _, [], _, h => h.elim
theorem PRel.length : ∀ {vs : List V} {ss : List Sl} {ps : List Addr}, PRel K W H vs ss ps → vs.length = ss.length
  | [], [], [], _ => rfl
  | v :: vs, .v d :: ss, ps, h => congrArg (· + 1) (PRel.length h.2)
  | v :: vs, .ol ds :: ss, p :: ps, h => congrArg (· + 1) (PRel.length h.2.2)
  | [], [], _ :: _, h => h.elim
  | [], _ :: _, _, h => h.elim
  | _ :: _, [], _, h => h.elim
  | _ :: _, .un :: _, _, h => h.elim
  | _ :: _, .od _ :: _, _, h => h.elim
  | _ :: _, .ol _ :: _, [], h => h.elim
theorem SRel.setSl : ∀ {ts : List Nat} {vs : List V} {ss : List Sl} {ps : List Addr} {W : Wd} {σ : L2.St} {env env' : Env}, SRel K CA W σ H env obs → PRel K W H vs ss ps → ps.Nodup → (∀ p ∈ ps, W.ρ p = some .acc) → Mp.setSl ts ss env = some env' →
    ∃ W2, W.leS W2 ∧ SRel K CA W2 (setV ts vs σ) H env' obs
  | [], [], [], [], W, σ, env, env', S, _, _, _, e => by cases e; exact ⟨W, .refl, S⟩
  | i :: is, v :: vs, .v d :: ss, ps, W, σ, env, env', S, h, n, a, e => by
    show ∃ W2, W.leS W2 ∧ SRel K CA W2 (setV is vs (σ.set i (some v))) H env' obs
    exact SRel.setSl (S.set (i := i) (s := .v d) ⟨v, rfl, h.1⟩) h.2 n a e
  | i :: is, v :: vs, .ol ds :: ss, p :: ps, W, σ, env, env', S, h, n, a, e => by
    show ∃ W2, W.leS W2 ∧ SRel K CA W2 (setV is vs (σ.set i (some v))) H env' obs
    obtain ⟨rfl, ⟨us, hp, rs⟩, h3⟩ := h
    obtain ⟨n1, n2⟩ := List.nodup_cons.mp n
    obtain ⟨W1, l1, S1, k1⟩ := S.put_own (i := i) (a p List.mem_cons_self) hp rs
    obtain ⟨W2, l2, S2⟩ := SRel.setSl S1 (h3.mono l1.d fun _ _ => rfl) n2 (fun q hq => k1 q _ (fun z => n1 (z ▸ hq)) (a q (List.mem_cons_of_mem _ hq))) e
    exact ⟨W2, l1.trans l2, S2⟩
  | [], [], _ :: _, _, _, _, _, _, _, h, _, _, _ => h.elim
  | [], [], [], _ :: _, _, _, _, _, _, h, _, _, _ => h.elim
  | [], _ :: _, [], _, _, _, _, _, _, h, _, _, _ => h.elim
  | [], _ :: _, _ :: _, _, _, _, _, _, _, _, _, _, e => by cases e
  | _ :: _, [], [], _, _, _, _, _, _, _, _, _, e => by cases e
  | _ :: _, _ :: _, [], _, _, _, _, _, _, h, _, _, _ => h.elim
  | _ :: _, [], _ :: _, _, _, _, _, _, _, h, _, _, _ => h.elim
  | _ :: _, _ :: _, .un :: _, _, _, _, _, _, _, h, _, _, _ => h.elim
  | _ :: _, _ :: _, .od _ :: _, _, _, _, _, _, _, h, _, _, _ => h.elim
  | _ :: _, _ :: _, .ol _ :: _, [], _, _, _, _, _, h, _, _, _ => h.elim
/-- a list of one's own is frozen -/
theorem SRel.freeze {i : Nat} {ds : List D} (S : SRel K CA W σ H env obs) (he : env[i]? = some (.ol ds)) : ∃ W2, W.leS W2 ∧ SRel K CA W2 σ H (env.set i (.v (.lst ds))) obs := by
  obtain ⟨p, vs, hσ, hr, hp, rs⟩ := S.getL he
  have hi : i < env.length := (List.getElem?_eq_some_iff.mp he).1
  have S0 : SRel K CA W σ H (env.set i .un) obs := S.weak (by simp [S.len]) fun j s e => by
    by_cases hj : i = j
    · subst hj; rw [List.getElem?_set_self hi] at e; exact .inl (Option.some.inj e).symm
    · rw [List.getElem?_set_ne hj] at e; exact .inr ⟨e, rfl⟩
  have S1 : SRel K CA (W.put p (.fro (.lst vs))) σ H (env.set i .un) obs := by
    refine S0.turn hr rfl (fun j s e z => ?_) (fun u e => by injection e with e; rw [← e]; exact hp) (fun u e => nomatch e)
    have hj : i = j := by injection e
    subst hj
    rw [List.getElem?_set_self hi] at z
    exact .inr (Option.some.inj z).symm
  have ls := leS_turn (r := .fro (.lst vs)) hr rfl
  refine ⟨_, ls, ?_⟩
  have := S1.set (i := i) (v := .ref p) (s := .v (.lst ds)) ⟨_, rfl, .lst (Wd.F_of.mpr Wd.put_same) (ls.d.reps rs)⟩
  rw [List.set_set] at this
  have e : σ.set i (some (.ref p)) = σ := by
    apply List.ext_getElem?
    intro j
    by_cases hj : i = j
    · subst hj; rw [List.getElem?_set_self (by rw [S.len]; exact hi), hσ]
    · rw [List.getElem?_set_ne hj]
  rw [e] at this; exact this
end
theorem aug_ok {X : Cx} {CA : Str → Option Addr} : ∀ op : Operator, ∃ r, OpR X (inplaceOp op) r ∧ Op2 X.K CA r (augD op) := by
  intro op
  cases op with
  | Add =>
    refine ⟨_, iop_add, fun W σ H env obs x y a b d Q S rx ry e q => ?_⟩
    cases a with
    | int a => cases b with
      | int b =>
        simp only [augD, Option.some.injEq] at e
        subst e; cases rx; cases ry
        exact ⟨_, _, rfl, rfl, q _ W H .refl S (.int _)⟩
      | _ => simp [augD] at e
    | _ => simp [augD] at e
  | Sub =>
    refine ⟨_, iop_sub, fun W σ H env obs x y a b d Q S rx ry e q => ?_⟩
    cases a with
    | int a => cases b with
      | int b =>
        simp only [augD, Option.some.injEq] at e
        subst e; cases rx; cases ry
        exact ⟨_, _, rfl, rfl, q _ W H .refl S (.int _)⟩
      | _ => simp [augD] at e
    | _ => simp [augD] at e
  | Mult =>
    refine ⟨_, iop_mul, fun W σ H env obs x y a b d Q S rx ry e q => ?_⟩
    cases a with
    | int a => cases b with
      | int b =>
        simp only [augD] at e
        split at e
        · rename_i h; cases e; cases rx; cases ry
          refine ⟨_, _, rfl, rfl, ?_, q _ W H .refl S (.int _)⟩
          unfold mulOk at h
          rw [Bool.or_eq_true] at h
          rcases h with h | h
          · exact .inl (natAbs_lt (of_decide_eq_true h))
          · exact .inr (natAbs_lt (of_decide_eq_true h))
        · cases e
      | _ => simp [augD] at e
    | _ => simp [augD] at e
  | FloorDiv =>
    refine ⟨_, iop_fdiv, fun W σ H env obs x y a b d Q S rx ry e q => ?_⟩
    cases a with
    | int a => cases b with
      | int b =>
        simp only [augD] at e
        split at e
        · rename_i h; cases e; cases rx; cases ry
          exact ⟨_, _, rfl, rfl, (by have := of_decide_eq_true h; exact this), q _ W H .refl S (.int _)⟩
        · cases e
      | _ => simp [augD] at e
    | _ => simp [augD] at e
  | Mod =>
    refine ⟨_, iop_mod, fun W σ H env obs x y a b d Q S rx ry e q => ?_⟩
    cases a with
    | int a => cases b with
      | int b =>
        simp only [augD] at e
        split at e
        · rename_i h; cases e; cases rx; cases ry
          exact ⟨_, _, rfl, rfl, (by have := of_decide_eq_true h; exact this), q _ W H .refl S (.int _)⟩
        · cases e
      | _ => simp [augD] at e
    | _ => simp [augD] at e
  | _ => exact ⟨fun _ _ _ _ => False, fun _ _ _ _ _ _ _ _ _ _ _ _ h => h.elim, fun _ _ _ _ _ _ _ _ _ _ _ _ _ _ e => by simp [augD] at e⟩
end Mp

set_option Elab.async false
set_option linter.all false
set_option maxRecDepth 100000
set_option maxHeartbeats 4000000
/-! THE THEOREM for statements. -/
namespace Mp
open PySem PySem.Spec PyProof.Rows L2

/-- a run, then another one, told from the first world -/
theorem LG.bnd1 {K : PySem.W.Frag} {CA : Str → Option Addr} {W0 : WX} {W W1 : Wd} {H H1 : Hp} {obs : Obs} {env : Env} {σ : L2.St} {α β γ δ : Type} {rel : Rl α β} {rel2 : Rl γ δ} {Q : δ → Hp → Prop} {T : β → Hp → Prop} {fa : Env → Obs → R α} {k : α → Obs → R γ} (l : W.leE W1 H H1) (S : SRel K CA W1 σ H1 env obs) (h : GP K CA W0 rel2 W env σ H Q ((fa env obs).bind k))
    (kk : ∀ a o1 v W2 H2, W1.leE W2 H1 H2 → SRel K CA W2 σ H2 env o1 → rel W1 W2 H2 v a → GP K CA W0 rel2 W env σ H Q (k a o1) → T v H2) : LG K CA W0 rel fa σ H1 T := by
  refine ⟨W1, env, obs, S, ?_⟩
  cases e : fa env obs with
  | ok a o => exact fun v W' H' l' S' r => kk a o v W' H' l' S' r (by rw [e] at h; exact h)
  | ex c a o => rw [e] at h; exact fun cls dd W' H' l' S' x => h cls dd W' H' (l.trans l') S' x
  | bad => rw [e] at h; exact h
section
variable {CA : Str → Option Addr} {fs bs N : List Str} {G : Str → Option D} {Φ : Str → List D → Obs → R D} {n : Nat}
structure CtxS (CA : Str → Option Addr) (fs bs N : List Str) (G : Str → Option D) (Φ : Str → List D → Obs → R D) (n : Nat) (sc : Scope) (X : Cx) : Prop where
  c : Ctx CA fs bs N G Φ n sc X
  own : PassesOwn (model X.prog X.w) X.A X.env X.xe
  fn : ∀ x, X.fn x = true
  kind : X.env.scope.kind = .function
  stk : X.stack = X.env :: X.outer
  fr : X.env.frame = some X.env.locals
/-- a comprehension's parts -/
theorem lc_parts {X : Cx} {sc : Scope} {W0 : WX} {x : E} {tg : Tg} {it : It} {k : Eo} {own : List (Str × Nat)} {e : Expr} (c : Ctx CA fs bs N G Φ n sc X) (tk : Takes X W0) (h : chkE fs bs N sc (.lc x tg it k own) e = true) :
    ∃ x' tg' it' ifs' scope pos, e = .ListComp x' [⟨tg', it', ifs', 0⟩] scope pos ∧ PI X tg' it' (LG X.K CA W0 (relI X.K CA) (denI Φ G it)) ∧ BlkOk X.N X.env.scope scope own ∧
      (∀ (s : Shared) (H : Hp) (C : Addr) (cl : List (Str × Addr)) (fp : List Addr), PG (X.blk s H scope (compEnvC scope cl C X.env) fp) tg' (gTg X.K tg)) ∧
      (∀ (s : Shared) (H : Hp) (C : Addr) (cl : List (Str × Addr)) (fp : List Addr), PTs (X.blk s H scope (compEnvC scope cl C X.env) fp) ifs' (LT X.K CA (fun _ _ _ _ => False) (denC Φ G k))) ∧
      (∀ (s : Shared) (H : Hp) (C : Addr) (cl : List (Str × Addr)) (fp : List Addr), PE (X.blk s H scope (compEnvC scope cl C X.env) fp) x' (LE X.K CA (fun _ _ _ _ => False) (denE Φ G x))) ∧
      (∀ z, foldedSetIterable it' X.env z = pure z) ∧ (∀ i ∈ tg.sl, i ∈ own.map (·.2)) := by
  cases e with
  | ListComp x' gs scope pos =>
    unfold chkE at h
    split at h
    · simp only [Bool.and_eq_true] at h
      obtain ⟨⟨⟨⟨h1, h2⟩, h3⟩, h4⟩, h5⟩ := h
      have cb : ∀ (s : Shared) (H : Hp) (C : Addr) (cl : List (Str × Addr)) (fp : List Addr), Ctx CA fs bs N G Φ n (relS scope sc) (X.blk s H scope (compEnvC scope cl C X.env) fp) := fun s H C cl fp =>
        ⟨c.hN, c.nd, by rw [← c.hsc]; rfl, c.calm, c.room, c.mo⟩
      refine ⟨_, _, _, _, _, _, rfl, soundI it c tk h2, by rw [c.hN, c.hsc]; exact blkOk_by h1, fun s H C cl fp => ?_, fun s H C cl fp => soundC k (cb s H C cl fp) takes0 h4, fun s H C cl fp => soundE x (cb s H C cl fp) takes0 h5, folded_ok (chkI_set h2), chkTg_own h3⟩
      exact (pg_of (X := X.blk s H scope (compEnvC scope cl C X.env) fp) c.hN c.nd c.calm (fun y hy => by
        unfold locB at hy
        split at hy
        · rename_i e
          have : (relS scope X.env.scope).names.lookup y = some .local := lookup_relS_keep (by decide) e
          exact ⟨.inl this, .inr this⟩
        · rename_i e
          have : (relS scope X.env.scope).names.lookup y = some .cell := lookup_relS_keep (by decide) e
          exact ⟨.inr this, .inl (by show (scope.names.lookup y == some .cell) = true; rw [e]; rfl)⟩
        · cases hy) h3).1
    · cases h
  | _ => simp [chkE] at h
theorem soundF {X : Cx} {sc : Scope} {W0 : WX} {f : Fr} {e : Expr} (c : Ctx CA fs bs N G Φ n sc X) (tk : Takes X W0) (h : chkF fs bs N sc f e = true) : PE X e (LF X.K CA W0 (denF Φ G f)) := by
  cases f with
  | dsp es =>
    cases e with
    | List es' pos =>
      refine PE.weak (pe_lst (soundEs es c tk (by simpa [chkF] using h))) ?_
      rintro σ H Q ⟨W, env, obs, S, g⟩
      refine LG.bnd earlyF S g fun ds o1 vs W1 H1 l1 S1 r1 g1 => ?_
      split at g1
      · rename_i hl
        have r1 : W1.reps X.K vs ds := r1
        exact ⟨by rw [r1.length]; exact hl, GP.new S1 g1 r1⟩
      · exact g1.elim
    | _ => simp [chkF] at h
  | lc x tg it k own =>
    obtain ⟨x', tg', it', ifs', scope, pos, rfl, p1, p2, p3, p4, p5, p6, p7⟩ := lc_parts c tk (by simpa [chkF] using h)
    exact PE.weak (pe_lc c.calm (by rw [c.hN]; exact c.nd) p1 p2 p3 p4 p5 p6) fun σ H Q g => lc_of p7 g
  | lo a =>
    cases e with
    | Call g es' kws pos =>
      cases g with
      | Name x p =>
        cases kws with
        | cons _ _ => simp [chkF] at h
        | nil =>
          cases es' with
          | nil => simp [chkF] at h
          | cons a' er =>
            cases er with
            | cons _ _ => simp [chkF] at h
            | nil =>
              simp only [chkF, Bool.and_eq_true, Bool.not_eq_true', beq_iff_eq] at h
              obtain ⟨⟨⟨⟨rfl, h1⟩, h2⟩, h3⟩, h4⟩ := h
              obtain ⟨b1, b2, b3⟩ := boot_T "list" (by decide)
              refine PE.weak (pe_callTy call_list_of (glB_ok c.hsc h1) (c.mo.bi _ (by simpa using h2)) b1 (pa_cons (soundE a c tk h3) pa_nil (star_ok h4)) b2 b3 (star_ok h4) rfl) ?_
              rintro σ H Q ⟨W, env, obs, S, g⟩
              refine LG.bnd earlyF S g fun x o1 v W1 H1 l1 S1 r1 g1 => ?_
              cases x with
              | lst ds =>
                obtain ⟨q, vs, rfl, hp, rs⟩ := S1.lst r1
                exact ⟨q, vs, rfl, .inl (SqL.of hp), GP.new S1 g1 rs⟩
              | tup ds =>
                obtain ⟨q, vs, rfl, hp, rs⟩ := S1.tup r1
                exact ⟨q, vs, rfl, .inr hp, GP.new S1 g1 rs⟩
              | _ => exact g1.elim
      | _ => simp [chkF] at h
    | _ => simp [chkF] at h
theorem soundPs {X : Cx} {sc : Scope} {W0 : WX} (c : Ctx CA fs bs N G Φ n sc X) (tk : Takes X W0) : ∀ {es : List (E ⊕ Fr)} {es' : List Expr}, chkPs fs bs N sc es es' = true → PA X es' (LG X.K CA W0 (relP X.K) (denPs Φ G es))
  | [], [], _ => PA.weak pa_nil fun σ H Q ⟨W, env, obs, S, g⟩ => g [] W H .refl S ⟨[], List.nodup_nil, (fun _ h => by cases h), trivial⟩
  | [], _ :: _, h => by simp [chkPs] at h
  | .inl _ :: _, [], h => by simp [chkPs] at h
  | .inr _ :: _, [], h => by simp [chkPs] at h
  | .inl a :: r, a' :: r', h => by
    simp only [chkPs, Bool.and_eq_true, Bool.not_eq_true'] at h
    refine PA.weak (pa_cons (soundE a c tk h.1.1) (soundPs c tk h.2) (star_ok h.1.2)) ?_
    rintro σ H Q ⟨W, env, obs, S, g⟩
    refine LG.bnd1 .refl S g fun x o1 v W1 H1 l1 S1 r1 g1 => ?_
    refine LG.bnd1 l1 S1 g1 fun xs o2 vs W2 H2 l2 S2 r2 g2 => ?_
    obtain ⟨ps, nd, hp, q⟩ := r2
    refine g2 _ W2 H2 (l1.trans l2) S2 ⟨ps, nd, fun p hq => ⟨?_, (hp p hq).2⟩, l2.d.rep r1, q⟩
    cases z : W.ρ p with
    | none => rfl
    | some r => have := (hp p hq).1; rw [l1.r p r z] at this; cases this
  | .inr f :: r, a' :: r', h => by
    simp only [chkPs, Bool.and_eq_true, Bool.not_eq_true'] at h
    refine PA.weak (pa_cons (soundF c tk h.1.1) (soundPs c tk h.2) (star_ok h.1.2)) ?_
    rintro σ H Q ⟨W, env, obs, S, g⟩
    refine LG.bnd1 .refl S g fun x o1 v W1 H1 l1 S1 r1 g1 => ?_
    refine LG.bnd1 l1 S1 g1 fun xs o2 vs W2 H2 l2 S2 r2 g2 => ?_
    obtain ⟨ps, nd, hp, q⟩ := r2
    obtain ⟨p, us, rfl, n0, ra, hh, rs⟩ := r1
    refine g2 _ W2 H2 (l1.trans l2) S2 ⟨p :: ps, List.nodup_cons.mpr ⟨fun z => ?_, nd⟩, fun p' hq => ?_, rfl, ⟨us, (l2.o p _ ra rfl).trans hh, l2.d.reps rs⟩, q⟩
    · have := (hp p z).1; rw [ra] at this; cases this
    · rcases List.mem_cons.mp hq with rfl | hq
      · exact ⟨n0, l2.r _ _ ra⟩
      · refine ⟨?_, (hp p' hq).2⟩
        cases z : W.ρ p' with
        | none => rfl
        | some r => have := (hp p' hq).1; rw [l1.r p' r z] at this; cases this
theorem pgs_nms {X : Cx} {sc : Scope} (hN : X.N = N) (nd : N.Nodup) (hsc : ∀ x, locB sc x = true → Loc X.env.scope x ∧ (X.fn x = true ∨ X.env.scope.names.lookup x = some .local)) : ∀ {ts : List Nat} {es : List Expr}, chkNms N sc ts es = true →
    PGs X es (gNms ts) ∧ (assignEach es X.env).length = ts.length ∧ (assignEach es X.env).findIdx? (·.1) = none
  | [], [], _ => ⟨pgs_nil, rfl, rfl⟩
  | [], _ :: _, h => by simp [chkNms] at h
  | _ :: _, [], h => by simp [chkNms] at h
  | t :: ts, e :: es, h => by
    cases e with
    | Name x pos =>
      simp only [chkNms, Bool.and_eq_true, decide_eq_true_eq] at h
      obtain ⟨⟨a, b⟩, d⟩ := h
      obtain ⟨h1, h3, h4⟩ := pgs_nms hN nd hsc d
      obtain ⟨l1, l2⟩ := hsc x b
      refine ⟨pgs_cons (pg_name (by rw [hN]; exact nd) (by rw [hN]; exact a) l1 l2) h1 (by rfl), ?_, ?_⟩
      · show (assignEach es X.env).length + 1 = _
        rw [h3]; rfl
      · show List.findIdx? (·.1) ((false, assign (.Name x pos) X.env) :: assignEach es X.env) = none
        rw [List.findIdx?_cons]
        simp [h4]
    | _ => simp [chkNms] at h
theorem CtxS.loc {X : Cx} {sc : Scope} (c : CtxS CA fs bs N G Φ n sc X) : ∀ x, locB sc x = true → Loc X.env.scope x ∧ (X.fn x = true ∨ X.env.scope.names.lookup x = some .local) := fun x h => ⟨by rw [c.c.hsc]; exact locB_ok h, .inl (c.fn x)⟩
theorem len2 {α : Type} {l : List α} (h : l.length = 2) : ∃ a b, l = [a, b] := by
  cases l with
  | nil => cases h
  | cons a l => cases l with
    | nil => cases h
    | cons b l => cases l with
      | nil => exact ⟨a, b, rfl⟩
      | cons _ _ => simp at h
theorem len3 {α : Type} {l : List α} (h : l.length = 3) : ∃ a b c, l = [a, b, c] := by
  cases l with
  | nil => cases h
  | cons a l =>
    obtain ⟨b, c, rfl⟩ := len2 (l := l) (by simpa using h)
    exact ⟨a, b, c, rfl⟩
theorem chkPs_len {sc : Scope} : ∀ {es : List (E ⊕ Fr)} {es' : List Expr}, chkPs fs bs N sc es es' = true → es'.length = es.length
  | [], [], _ => rfl
  | [], _ :: _, h => by simp [chkPs] at h
  | .inl _ :: _, [], h => by simp [chkPs] at h
  | .inr _ :: _, [], h => by simp [chkPs] at h
  | .inl a :: r, a' :: r', h => by
    simp only [chkPs, Bool.and_eq_true] at h
    exact congrArg (· + 1) (chkPs_len h.2)
  | .inr a :: r, a' :: r', h => by
    simp only [chkPs, Bool.and_eq_true] at h
    exact congrArg (· + 1) (chkPs_len h.2)
theorem nms1 {sc : Scope} {i : Nat} {is : List Nat} {es : List Expr} (h : chkNms N sc (i :: is) es = true) : ∃ x px r, es = .Name x px :: r ∧ chkNms N sc is r = true := by
  cases es with
  | nil => simp [chkNms] at h
  | cons e r => cases e with
    | Name x px =>
      simp only [chkNms, Bool.and_eq_true] at h
      exact ⟨x, px, r, rfl, h.2⟩
    | _ => simp [chkNms] at h
theorem nms0 {sc : Scope} {es : List Expr} (h : chkNms N sc [] es = true) : es = [] := by
  cases es with
  | nil => rfl
  | cons _ _ => simp [chkNms] at h
theorem nms2 {sc : Scope} {i j : Nat} {es : List Expr} (h : chkNms N sc [i, j] es = true) : ∃ x px y py, es = [.Name x px, .Name y py] := by
  obtain ⟨x, px, r, rfl, h'⟩ := nms1 h
  obtain ⟨y, py, r', rfl, h''⟩ := nms1 h'
  rw [nms0 h'']
  exact ⟨x, px, y, py, rfl⟩
theorem nms3 {sc : Scope} {i j l : Nat} {es : List Expr} (h : chkNms N sc [i, j, l] es = true) : ∃ x px y py z pz, es = [.Name x px, .Name y py, .Name z pz] := by
  obtain ⟨x, px, r, rfl, h'⟩ := nms1 h
  obtain ⟨y, py, z, pz, rfl⟩ := nms2 h'
  exact ⟨x, px, y, py, z, pz, rfl⟩
theorem sound_par {X : Cx} {sc : Scope} {W0 : WX} {ts : List Nat} {es : List (E ⊕ Fr)} {ts' es' : List Expr} {k k2 : Nat} {p p2 pos : Pos} {M : Nat} (c : CtxS CA fs bs N G Φ n sc X) (tk : Takes X W0) (h : chkPar fs bs N sc ts es ts' es' = true) :
    PS X (.Assign [.Tuple ts' k p] (.Tuple es' k2 p2) pos) (LS X.K CA W0 (denS Φ G M (.par ts es))) := by
  simp only [chkPar, Bool.and_eq_true, decide_eq_true_eq] at h
  obtain ⟨⟨⟨⟨h1, h2⟩, h3⟩, h4⟩, h5⟩ := h
  obtain ⟨q1, q2, q3⟩ := pgs_nms c.c.hN c.c.nd c.loc h1
  have hps := soundPs c.c tk h2
  -- what is asked behind the parts
  have fin : ∀ {W : Wd} {σ : L2.St} {H H' : Hp} {env : Env} {o : Obs} {xs : List Sl} {vs : List V} {D : Ends} {W1 : Wd}, SRel X.K CA W1 σ H env o → relP X.K W W1 H vs xs → (∀ q u, H q = some u → H' q = some u) → LPost X.K CA W0 W1 D (match setSl ts xs env with | some env => .nx env o | none => .bad) → vs.length = ts.length ∧ D.nx (setV ts vs σ) H' := by
    rintro W σ H H' env o xs vs D W1 S1 ⟨ps, nd, hp, q⟩ hh g
    cases he : setSl ts xs env with
    | none => rw [he] at g; exact g.elim
    | some env' =>
      rw [he] at g
      have S1' := S1.heap hh
      have q' : PRel X.K W1 H' vs xs ps := q.mono .refl fun p hp' => by
        obtain ⟨u, hu⟩ := S1.h.live p _ (hp p hp').2
        rw [hu, hh p u hu]
      obtain ⟨W2, l2, S2⟩ := S1'.setSl q' nd (fun p hp' => (hp p hp').2) he
      refine ⟨?_, g _ W2 H' l2 S2⟩
      rw [q.length]
      clear q q' S1 S1' g hp nd hh l2 S2
      revert he
      generalize ts = l
      intro he
      induction l generalizing xs env with
      | nil => cases xs with
        | nil => rfl
        | cons _ _ => cases he
      | cons i l ih => cases xs with
        | nil => cases he
        | cons s xs => exact congrArg (· + 1) (ih he)
  split at h5
  · rename_i hsw
    refine PS.weak (ps_asg (pe_tup hps) (pg_tup c.c.calm q1 q2 q3) sw_tup (swP_ok c.kind (by rw [c.c.hsc]; exact hsw)) rfl) ?_
    rintro D σ H ⟨W, env, obs, S, g⟩
    refine LS.bnd (rel := relP X.K) S g fun xs o1 vs W1 H1 l1 S1 r1 g1 => ?_
    have hl := (fin S1 r1 (H' := H1) (fun _ _ z => z) g1).1
    refine ⟨by rw [hl]; exact Nat.le_trans h4 (by decide), fun q hq => ?_⟩
    have := (fin S1 r1 (H' := upd H1 q (.tup vs)) (fun a u z => by rw [upd_ne (ne_of_none z hq)]; exact z) g1).2
    exact ⟨q, vs, rfl, SqT.of upd_same, hl, gNms_of hl this⟩
  · rename_i ns hsw
    simp only [Bool.and_eq_true, decide_eq_true_eq, Bool.or_eq_true, beq_iff_eq, List.all_eq_true] at h5
    obtain ⟨⟨⟨hns, hlc⟩, hnd⟩, hlen⟩ := h5
    have hsw' := swP_ok (k := k) (k2 := k2) (p := p) (p2 := p2) c.kind (by rw [c.c.hsc]; exact hsw)
    have lcl : ∀ x, lclB sc x = true → X.env.scope.names.lookup x = some .local := fun x hx => by
      rw [c.c.hsc]
      unfold lclB at hx
      split at hx
      · rename_i e; exact e
      · cases hx
    have hel : es'.length = ts.length := (chkPs_len h2).trans h3.symm
    rcases hlen with hlen | hlen
    · obtain ⟨i, j, rfl⟩ := len2 hlen
      obtain ⟨a, b, rfl⟩ := len2 (hel.trans hlen)
      obtain ⟨x, px, y, py, rfl⟩ := nms2 h1
      simp only [chkNms, Bool.and_eq_true, decide_eq_true_eq, Bool.and_true] at h1
      obtain ⟨⟨a1, a2⟩, ⟨b1, b2⟩⟩ := h1
      rw [hns] at hsw'
      have hij : i ≠ j := by simpa using hnd
      refine PS.weak (ps_par c.c.calm (by rw [c.c.hN]; exact c.c.nd) (by rw [c.c.hN]; exact a1) (by rw [c.c.hN]; exact b1) hij (lcl x (hlc x (by simp [idents]))) (lcl y (hlc y (by simp [idents]))) hps hsw' sw_tup) ?_
      rintro D σ H ⟨W, env, obs, S, g⟩
      refine LS.bnd (rel := relP X.K) S g fun xs o1 vs W1 H1 l1 S1 r1 g1 => ?_
      obtain ⟨hl, q⟩ := fin S1 r1 (H' := H1) (fun _ _ z => z) g1
      obtain ⟨v, w, rfl⟩ := len2 hl
      exact ⟨v, w, rfl, q⟩
    · obtain ⟨i, j, l, rfl⟩ := len3 hlen
      obtain ⟨a, b, d, rfl⟩ := len3 (hel.trans hlen)
      obtain ⟨x, px, y, py, z, pz, rfl⟩ := nms3 h1
      simp only [chkNms, Bool.and_eq_true, decide_eq_true_eq, Bool.and_true] at h1
      obtain ⟨⟨a1, a2⟩, ⟨b1, b2⟩, ⟨c1, c2⟩⟩ := h1
      rw [hns] at hsw'
      have hnd' : (i ≠ j ∧ i ≠ l) ∧ j ≠ l := by simpa using hnd
      refine PS.weak (ps_par3 c.c.calm (by rw [c.c.hN]; exact c.c.nd) (by rw [c.c.hN]; exact a1) (by rw [c.c.hN]; exact b1) (by rw [c.c.hN]; exact c1) hnd'.1.1 hnd'.1.2 hnd'.2 (lcl x (hlc x (by simp [idents]))) (lcl y (hlc y (by simp [idents]))) (lcl z (hlc z (by simp [idents]))) hps hsw' sw_tup) ?_
      rintro D σ H ⟨W, env, obs, S, g⟩
      refine LS.bnd (rel := relP X.K) S g fun xs o1 vs W1 H1 l1 S1 r1 g1 => ?_
      obtain ⟨hl, q⟩ := fin S1 r1 (H' := H1) (fun _ _ z => z) g1
      obtain ⟨u, v, w, rfl⟩ := len3 hl
      exact ⟨u, v, w, rfl, q⟩
  · cases h5
/-- raise c(e) -/
theorem sound_rse {X : Cx} {sc : Scope} {W0 : WX} {cn x : Str} {e : E} {e' : Expr} {p cpos pos : Pos} {M : Nat} (c : CtxS CA fs bs N G Φ n sc X) (tk : Takes X W0) (h0 : (cn == x) = true) (h1 : glB sc x = true) (h2 : (!dbg x) = true) (h3 : bs.contains (clsNm cn) = true) (h5 : (!isStar e') = true)
    (he : PE X e' (LE X.K CA W0 (denE Φ G e))) : PS X (.Raise (some (.Call (.Name x p) [e'] [] cpos)) none pos) (LS X.K CA W0 (denS Φ G M (.rse cn e))) := by
  obtain rfl := eq_of_beq h0
  simp only [Bool.not_eq_true'] at h2 h5
  obtain ⟨C, fI, fd, hCA, hmg, oc', hini, hty, hfn, hbd, _, _, _⟩ := (c.c.mo.cl _ (by simpa using h3)).ex
  have hst := star_ok (es := []) (env := X.env) h5
  have mk := pmk_oex (X := X) (p := p) (pos := cpos) (ds := []) (dvs := []) oc' hini hty hfn (c.c.room.mono c.c.mo.two) hbd .nil (fun pins σ H s e s' I q => by obtain ⟨_, _, _, _, _, _, _, _, _, _, _, _, z⟩ := q; exact z.elim) (glB_ok c.c.hsc h1) hmg (pa_cons he pa_nil hst) h2 hst rfl
  refine PS.weak (ps_raise c.c.calm tk mk) ?_
  rintro D σ H ⟨W, env, obs, S, g⟩
  refine one_of (X := X) ?_
  refine LS.bnd (rel := relE X.K) S g fun x o1 v W1 H1 l1 S1 r1 g1 => ?_
  cases x with
  | int i =>
    simp only [raiseD] at g1
    split at g1
    · rename_i hi
      cases r1
      refine ⟨by simp, fun a hna => ⟨a, i, rfl, hi, upd_same, fun dx hdx hne => ⟨rfl, dx, [(("place" : Str), .int i)], upd_same, ?_, ?_, ?_⟩⟩⟩
      · rw [upd_ne hne, upd_same]
      · rw [upd_ne hne] at hdx; exact hdx
      · have hd1 : H1 dx = none := by rw [upd_ne hne] at hdx; exact hdx
        have e3 : upd (del (upd (upd (upd H1 a (exo a C none)) dx (exd dx [(("place" : Str), .int i)])) a (exo a C (some dx))) a) dx (.xd [(("place" : Str), .int i)]) = upd H1 dx (.xd [(("place" : Str), .int i)]) := by
          funext b
          by_cases hb : b = dx
          · rw [hb, upd_same, upd_same]
          · rw [upd_ne hb, upd_ne hb]
            by_cases ha : b = a
            · rw [ha, del_same, hna]
            · rw [del_ne ha, upd_ne ha, upd_ne hb, upd_ne ha]
        rw [e3]
        refine g1 _ _ _ W1 _ .refl (S1.heap fun p o z => ?_) ⟨C, dx, .int i, hCA, rfl, rfl, upd_same, .int i⟩
        rw [upd_ne (ne_of_none z hd1)]; exact z
    · exact g1.elim
  | _ => exact g1.elim
theorem XR.cls {K : PySem.W.Frag} {CA : Str → Option Addr} {W1 : Wd} {cls : Value} {dd : Option Addr} {H' : Hp} {a : D} {cn : Str} {C : Addr} (hCA : CA cn = some C) (x : XR K CA W1 H' cls dd cn a) : cls = .ref C := by
  cases a with
  | non => obtain ⟨C', e1, e2⟩ := x; rw [hCA] at e1; cases e1; exact e2
  | _ => obtain ⟨C', _, _, e1, e2, _⟩ := x; rw [hCA] at e1; cases e1; exact e2
/-- a try's body, by what the suite does with the exceptions of it -/
theorem try_of {K : PySem.W.Frag} {CA : Str → Option Addr} {W0 W : WX} {T : Ends} {σ : L2.St} {H : Hp} {cn : Str} {hd : Hd} {f : Env → Obs → RS} (g : LS K CA W0 (fun env o => tryD cn hd (f env o)) T σ H)
    (k : ∀ {W1 : Wd} {cls : Value} {dd : Option Addr} {σ' : L2.St} {H' : Hp} {a : D} {env' : Env} {o : Obs}, SRel K CA W1 σ' H' env' o → XR K CA W1 H' cls dd cn a → LPost K CA W0 W1 T (denHd hd a env' o) → W cls dd σ' H') : LS K CA W f T σ H := by
  obtain ⟨Wd0, env, obs, S, g⟩ := g
  refine ⟨Wd0, env, obs, S, ?_⟩
  replace g : LPost K CA W0 Wd0 T (tryD cn hd (f env obs)) := g
  cases hb : f env obs with
  | ex c' a e o =>
    rw [hb] at g
    simp only [tryD] at g
    split at g
    · rename_i hc
      subst hc
      exact fun cls dd σ' W' H' l S' x => k S' x (LPost.mono l g)
    · exact g.elim
  | nx e o => rw [hb] at g; exact g
  | rt d o => rw [hb] at g; exact g
  | bk e o => rw [hb] at g; exact g
  | ct e o => rw [hb] at g; exact g
  | bad => rw [hb] at g; exact g
/-- try: .. except c [as ..]: a suite that is told -/
theorem sound_try {X : Cx} {sc : Scope} {W0 : WX} {cn x : Str} {b : Ss} {hd : Hd} {b' su : List Stmt} {nm : Option Str} {np pos' pos : Pos} {M : Nat} (c : CtxS CA fs bs N G Φ n sc X) (tk : Takes X W0) (h0 : (cn == x) = true) (h1 : glB sc x = true) (h2 : (!dbg x) = true) (h3 : bs.contains (clsNm cn) = true) (h5 : chkHd N sc hd nm su = true)
    (hbody : ∀ (W : WX) (pn : List (Addr × Obj)) (xe : Value → Shared → Prop), Takes (X.tr pn xe) W → PassesOwn (model X.prog X.w) X.A X.env xe → PSs (X.tr pn xe) b' (LS X.K CA W (denSs Φ G M b))) :
    PS X (.Try b' [.ExceptHandler (some (.Name x np)) nm su pos'] [] [] pos) (LS X.K CA W0 (denS Φ G M (.trye b cn hd))) := by
  obtain rfl := eq_of_beq h0
  simp only [Bool.not_eq_true'] at h2
  obtain ⟨C, fI, fd, hCA, hmg, oc', hini, hty, hfn, hbd, hxf, hpl, hexm⟩ := (c.c.mo.cl _ (by simpa using h3)).ex
  have hnm : Names X cn (.ref C) := ⟨glB_ok c.c.hsc h1, h2, .inl hmg⟩
  have nd : X.N.Nodup := by rw [c.c.hN]; exact c.c.nd
  unfold chkHd at h5
  split at h5
  · rename_i i j n' y py e' p1 f p2 pos2
    simp only [Bool.and_eq_true, Bool.not_eq_true', beq_iff_eq, decide_eq_true_eq] at h5
    obtain ⟨⟨⟨⟨⟨⟨⟨⟨q1, q2⟩, rfl⟩, q3⟩, q4⟩, rfl⟩, q5⟩, q6⟩, q7⟩ := h5
    have lcl : X.env.scope.names.lookup e' = some .local := by
      rw [c.c.hsc]; unfold lclB at q2
      split at q2
      · rename_i z; exact z
      · cases q2
    obtain ⟨l1, l2⟩ := c.loc y q6
    rw [← c.c.hN] at q1 q5
    refine PS.weak (ps_try_as (i := i) (tb := fun W => LS X.K CA W (denSs Φ G M b)) (ts := fun a cls dd => tAsg (tXf a cls dd C "place" (tVar i)) (gName j)) (Wout := W0) c.stk c.fr nd q1 lcl hnm tk hbody fun a oe cls dd pn hz hf => ?_) ?_
    · exact pss_one (ps_set (X := X.suite a ((a, oe) :: pn)) nd q5 l1 (pe_xf hxf hpl hz hf (pe_var (i := i) q1 (.inl lcl) q3 q4)) (sw_false c.kind (by rw [c.c.hsc]; exact q7)) l2)
    · intro D σ H g
      refine try_of g fun {W1 cls dd σ' H' a env' o} S' x k => ?_
      obtain rfl := XR.cls hCA x
      refine ⟨true, hexm, fun _ p hp => ?_, fun z => nomatch z⟩
      cases a with
      | int k' =>
        obtain ⟨C', d1, v, e1, e2, e3, e4, e5⟩ := x
        cases e5
        simp only [denHd] at k
        split at k
        · rename_i hlt
          have hlt' : i < σ'.length := by rw [S'.len]; exact hlt
          refine ⟨.ref p, by rw [List.getElem?_set_self hlt'], rfl, rfl, d1, _, .int k', e3, e4, by simp [List.lookup], ?_⟩
          refine k _ W1 H' .refl (((S'.set (i := i) (v := .ref p) (s := .un) trivial).set (i := j) (v := .int k') (s := .v (.int k')) ⟨_, rfl, .int k'⟩).weak (by simp [S'.len]) fun m s hs => ?_)
          by_cases hm : i = m
          · subst hm
            rw [List.getElem?_set_self (by simpa using hlt)] at hs
            cases hs; exact .inl rfl
          · rw [List.getElem?_set_ne hm] at hs
            exact .inr ⟨hs, by rw [List.getElem?_set_ne hm]⟩
        · exact k.elim
      | _ => exact k.elim
  · rename_i j d y py k' q p2 pos2
    simp only [Bool.and_eq_true, Bool.not_eq_true', decide_eq_true_eq] at h5
    obtain ⟨⟨⟨q1, q2⟩, q3⟩, q4⟩ := h5
    obtain ⟨l1, l2⟩ := c.loc y q2
    rw [← c.c.hN] at q1
    have hv := fun K W => (lit_ok (X := X) (j := q) (pos := p2) q4).2 K W
    refine PS.weak (ps_try_only (tb := fun W => LS X.K CA W (denSs Φ G M b)) (ts := fun a cls dd => tAsg (tC (litV d)) (gName j)) (Wout := W0) c.stk c.fr hnm tk hbody fun a oe cls dd pn hz hf => ?_) ?_
    · exact pss_one (ps_set (X := X.suite a ((a, oe) :: pn)) nd q1 l1 (lit_ok (j := q) (pos := p2) q4).1 (sw_false c.kind (by rw [c.c.hsc]; exact q3)) l2)
    · intro D σ H g
      refine try_of g fun {W1 cls dd σ' H' a env' o} S' x k => ?_
      obtain rfl := XR.cls hCA x
      exact ⟨true, hexm, fun _ p hp => k _ W1 H' .refl (S'.set ⟨_, rfl, hv _ _⟩), fun z => nomatch z⟩
  · rename_i d k' q p2 pos2
    have hv := fun K W => (lit_ok (X := X) (j := q) (pos := p2) h5).2 K W
    refine PS.weak (ps_try_only (tb := fun W => LS X.K CA W (denSs Φ G M b)) (ts := fun a cls dd => tRet (tC (litV d))) (Wout := W0) c.stk c.fr hnm tk hbody fun a oe cls dd pn hz hf => ?_) ?_
    · exact pss_one (ps_ret (X := X.suite a ((a, oe) :: pn)) (lit_ok (j := q) (pos := p2) h5).1)
    · intro D σ H g
      refine try_of g fun {W1 cls dd σ' H' a env' o} S' x k => ?_
      obtain rfl := XR.cls hCA x
      exact ⟨true, hexm, fun _ p hp => k _ W1 H' .refl S'.h (hv _ _), fun z => nomatch z⟩
  · cases h5
end
end Mp

set_option Elab.async false
set_option linter.all false
set_option maxRecDepth 100000
set_option maxHeartbeats 4000000
/-! THE THEOREM for statements, blocks, defs and programs. -/
namespace Mp
open PySem PySem.Spec PyProof.Rows L2

section
variable {CA : Str → Option Addr} {fs bs N : List Str} {G : Str → Option D} {Φ : Str → List D → Obs → R D} {n M : Nat}
/-- the slot of a name that is read -/
theorem slot_ok {X : Cx} {sc : Scope} {i : Nat} {x : Str} {pos : Pos} (c : Ctx CA fs bs N G Φ n sc X) (h : (decide (N[i]? = some x) && visB sc x && !dbg x && !(x == ("__classdict__" : Str))) = true) : PE X (.Name x pos) (tVar i) := by
  simp only [Bool.and_eq_true, decide_eq_true_eq, Bool.not_eq_true'] at h
  obtain ⟨⟨⟨h1, h2⟩, h3⟩, h4⟩ := h
  exact pe_var (i := i) (by rw [c.hN]; exact h1) (by rw [c.hsc]; exact visB_ok h2) h3 h4
theorem asg_sub {a b : Expr} {pos : Pos} {env : PySem.Env} (h : isSlice b = false) : ∀ v, assign (.Subscript a b pos) env v = (do
      let ov ← holding [v] (eval a env)
      let iv ← holding [v, ov] (eval b env)
      standAt pos
      holding [v, ov, iv] (setItem ov iv v)
      release [v, ov, iv] []) := fun v => by
  cases b <;> first | rfl | (simp [isSlice] at h)
mutual
theorem soundS : ∀ (m : S) {X : Cx} {sc : Scope} {W0 : WX} {st : Stmt}, CtxS CA fs bs N G Φ n sc X → Takes X W0 → chkS fs bs N sc m st = true → PS X st (LS X.K CA W0 (denS Φ G M m))
  | .rse cn e, X, sc, W0, st, c, tk, h => by
    cases st with
    | Raise oe oc pos =>
      cases oe with
      | none => simp [chkS] at h
      | some e0 =>
        cases e0 with
        | Call f es' kws cpos =>
          cases f with
          | Name x p =>
            cases kws with
            | cons _ _ => simp [chkS] at h
            | nil =>
              cases oc with
              | some _ => simp [chkS] at h
              | none =>
                unfold chkS at h
                split at h
                · simp only [Bool.and_eq_true] at h
                  exact sound_rse c tk h.1.1.1.1.1 h.1.1.1.1.2 h.1.1.1.2 h.1.1.2 h.2 (soundE e c.c tk h.1.2)
                · cases h
          | _ => simp [chkS] at h
        | _ => simp [chkS] at h
    | _ => simp [chkS] at h
  | .trye b cn hd, X, sc, W0, st, c, tk, h => by
    cases st with
    | Try b' hs' oe fb pos =>
      cases oe with
      | cons _ _ => simp [chkS] at h
      | nil =>
        cases fb with
        | cons _ _ => simp [chkS] at h
        | nil =>
          unfold chkS at h
          split at h
          · simp only [Bool.and_eq_true] at h
            refine sound_try (M := M) c tk h.1.1.1.1.1 h.1.1.1.1.2 h.1.1.1.2 h.1.1.2 h.2 fun W pn xe tk' po => ?_
            exact soundSs b (X := X.tr pn xe) ⟨⟨c.c.hN, c.c.nd, c.c.hsc, c.c.calm, c.c.room, c.c.mo⟩, po, c.fn, c.kind, c.stk, c.fr⟩ tk' h.1.2
          · cases h
    | _ => simp [chkS] at h
  | .set i e, X, sc, W0, st, c, tk, h => by
    cases st with
    | Assign tgs e' pos =>
      unfold chkS at h
      split at h
      · rename_i x px
        simp only [Bool.and_eq_true, decide_eq_true_eq, Bool.or_eq_true, Bool.not_eq_true'] at h
        obtain ⟨⟨⟨h1, h2⟩, h3⟩, h4⟩ := h
        obtain ⟨l1, l2⟩ := c.loc x h2
        rcases h4 with h4 | h4
        · refine PS.weak (ps_set (by rw [c.c.hN]; exact c.c.nd) (by rw [c.c.hN]; exact h1) l1 (soundE e c.c tk h3) (sw_false c.kind (by rw [c.c.hsc]; exact h4)) l2) ?_
          rintro D σ H ⟨W, env, obs, S, g⟩
          exact LS.bnd (rel := relE X.K) S g fun a o1 v W1 H1 l1 S1 r1 g1 => g1 _ W1 H1 .refl (S1.set ⟨v, rfl, r1⟩)
        · cases hsw : swB sc x px e' with
          | false =>
            refine PS.weak (ps_set (by rw [c.c.hN]; exact c.c.nd) (by rw [c.c.hN]; exact h1) l1 (soundE e c.c tk h3) (sw_false c.kind (by rw [c.c.hsc]; exact hsw)) l2) ?_
            rintro D σ H ⟨W, env, obs, S, g⟩
            exact LS.bnd (rel := relE X.K) S g fun a o1 v W1 H1 l1 S1 r1 g1 => g1 _ W1 H1 .refl (S1.set ⟨v, rfl, r1⟩)
          | true =>
            cases e with
            | lc x0 tg it k own =>
              obtain ⟨x', tg', it', ifs', scope, p2, rfl, p1, p3, p4, p5, p6, p7, p8⟩ := lc_parts c.c tk h3
              simp only [swB, Bool.and_eq_true, Bool.not_eq_true'] at hsw
              obtain ⟨⟨s1, s2⟩, s3⟩ := hsw
              have hl : X.env.scope.names.lookup x = some .local := by
                rw [c.c.hsc]; unfold lclB at s1
                split at s1
                · rename_i z; exact z
                · cases s1
              refine PS.weak (ps_setLc c.c.calm (by rw [c.c.hN]; exact c.c.nd) (by rw [c.c.hN]; exact h1) hl (sw_true c.kind hl s2 s3) p1 p3 p4 p5 p6 p7) ?_
              rintro D σ H ⟨W, env, obs, S, g⟩
              refine lc_of p8 (lf_of ?_)
              exact LS.bnd (rel := relE X.K) (fa := denE Φ G (.lc x0 tg it k own)) S g fun a o1 v W1 H1 l1 S1 r1 g1 => g1 _ W1 H1 .refl (S1.set ⟨v, rfl, r1⟩)
            | _ => cases h4
      · cases h
    | _ => simp [chkS] at h
  | .new i f, X, sc, W0, st, c, tk, h => by
    cases st with
    | Assign tgs e' pos =>
      unfold chkS at h
      split at h
      · rename_i x px
        simp only [Bool.and_eq_true, decide_eq_true_eq, Bool.or_eq_true, Bool.not_eq_true'] at h
        obtain ⟨⟨⟨h1, h2⟩, h3⟩, h4⟩ := h
        obtain ⟨l1, l2⟩ := c.loc x h2
        have plain : swB sc x px e' = false → PS X (.Assign [.Name x px] e' pos) (LS X.K CA W0 (denS Φ G M (.new i f))) := fun h4 => by
          refine PS.weak (ps_set (by rw [c.c.hN]; exact c.c.nd) (by rw [c.c.hN]; exact h1) l1 (soundF c.c tk h3) (sw_false c.kind (by rw [c.c.hsc]; exact h4)) l2) ?_
          rintro D σ H ⟨W, env, obs, S, g⟩
          refine LS.bnd (rel := relF X.K) S g fun a o1 v W1 H1 l1 S1 r1 g1 => ?_
          obtain ⟨p, vs, rfl, n0, ra, hp, rs⟩ := r1
          obtain ⟨W2, l2, S2, _⟩ := S1.put_own (i := i) ra hp rs
          exact g1 _ W2 H1 l2 S2
        rcases h4 with h4 | h4
        · exact plain h4
        · cases hsw : swB sc x px e' with
          | false => exact plain hsw
          | true =>
            cases f with
            | lc x0 tg it k own =>
              obtain ⟨x', tg', it', ifs', scope, p2, rfl, p1, p3, p4, p5, p6, p7, p8⟩ := lc_parts c.c tk (by simpa [chkF] using h3)
              simp only [swB, Bool.and_eq_true, Bool.not_eq_true'] at hsw
              obtain ⟨⟨s1, s2⟩, s3⟩ := hsw
              have hl : X.env.scope.names.lookup x = some .local := by
                rw [c.c.hsc]; unfold lclB at s1
                split at s1
                · rename_i z; exact z
                · cases s1
              refine PS.weak (ps_setLc c.c.calm (by rw [c.c.hN]; exact c.c.nd) (by rw [c.c.hN]; exact h1) hl (sw_true c.kind hl s2 s3) p1 p3 p4 p5 p6 p7) ?_
              rintro D σ H ⟨W, env, obs, S, g⟩
              refine lc_of p8 ?_
              refine LS.bnd (rel := relF X.K) (fa := denF Φ G (.lc x0 tg it k own)) S g fun a o1 v W1 H1 l1 S1 r1 g1 => ?_
              obtain ⟨p, vs, rfl, n0, ra, hp, rs⟩ := r1
              obtain ⟨W2, l2, S2, _⟩ := S1.put_own (i := i) ra hp rs
              exact g1 _ W2 H1 l2 S2
            | _ => cases h4
      · cases h
    | _ => simp [chkS] at h
  | .tup ts e, X, sc, W0, st, c, tk, h => by
    cases st with
    | Assign tgs e' pos =>
      unfold chkS at h
      split at h
      · rename_i ts' k p
        simp only [Bool.and_eq_true] at h
        obtain ⟨⟨h1, h2⟩, h3⟩ := h
        obtain ⟨hg, _⟩ := pg_of c.c.hN c.c.nd c.c.calm c.loc h1
        refine PS.weak (ps_asg (soundE e c.c tk h2) hg sw_tup (swN_ok h3) rfl) ?_
        rintro D σ H ⟨W, env, obs, S, g⟩
        refine LS.bnd (rel := relE X.K) S g fun a o1 v W1 H1 l1 S1 r1 g1 => ?_
        cases he : setTg (.tp ts) a env with
        | none => rw [he] at g1; exact g1.elim
        | some env' =>
          rw [he] at g1
          exact tg_of (tg := .tp ts) S1 r1 he fun σ' S2 _ => g1 _ W1 H1 .refl S2
      · cases h
    | _ => simp [chkS] at h
  | .tgt tg e, X, sc, W0, st, c, tk, h => by
    cases st with
    | Assign tgs e' pos =>
      unfold chkS at h
      split at h
      · rename_i ts' k p
        simp only [Bool.and_eq_true] at h
        obtain ⟨⟨h1, h2⟩, h3⟩ := h
        obtain ⟨hg, _⟩ := pg_of c.c.hN c.c.nd c.c.calm c.loc h1
        have hsw : swappedStores [.Tuple ts' k p] e' X.env = pure none := by
          cases e' with
          | Tuple es' k2 p2 =>
            simp only at h3
            split at h3
            · rename_i hs
              exact swP_ok c.kind (by rw [c.c.hsc]; exact hs)
            · cases h3
          | _ => exact swN_ok rfl
        refine PS.weak (ps_asg (soundE e c.c tk h2) hg sw_tup hsw rfl) ?_
        rintro D σ H ⟨W, env, obs, S, g⟩
        refine LS.bnd (rel := relE X.K) S g fun a o1 v W1 H1 l1 S1 r1 g1 => ?_
        cases he : setTg tg a env with
        | none => rw [he] at g1; exact g1.elim
        | some env' =>
          rw [he] at g1
          exact tg_of S1 r1 he fun σ' S2 _ => g1 _ W1 H1 .refl S2
      · cases h
    | _ => simp [chkS] at h
  | .par ts es, X, sc, W0, st, c, tk, h => by
    cases st with
    | Assign tgs e' pos =>
      unfold chkS at h
      split at h
      · exact sound_par c tk h
      · cases h
    | _ => simp [chkS] at h
  | .aug i op e, X, sc, W0, st, c, tk, h => by
    cases st with
    | AugAssign t op' e' pos =>
      cases t with
      | Name x px =>
        simp only [chkS, Bool.and_eq_true, decide_eq_true_eq] at h
        obtain ⟨⟨⟨h1, h2⟩, rfl⟩, h3⟩ := h
        obtain ⟨l1, l2⟩ := c.loc x h2
        obtain ⟨r, hr, hop⟩ := aug_ok (X := X) (CA := CA) op
        refine PS.weak (ps_aug (by rw [c.c.hN]; exact c.c.nd) (by rw [c.c.hN]; exact h1) l1 (soundE e c.c tk h3) hr l2) ?_
        rintro D σ H ⟨W, env, obs, S, g⟩
        have g : LPost X.K CA W0 W D (match env[i]? with
          | some (.v x) => (denE Φ G e env obs).st env fun y o => match augD op x y with
            | some z => .nx (env.set i (.v z)) o
            | none => .bad
          | _ => .bad) := g
        cases hi : env[i]? with
        | none => rw [hi] at g; exact g.elim
        | some s =>
          rw [hi] at g
          cases s with
          | v a =>
            obtain ⟨u, hu, ru⟩ := S.get hi
            refine ⟨u, hu, ?_⟩
            refine LS.bnd (rel := relE X.K) S g fun b o1 v W1 H1 l1 S1 r1 g1 => ?_
            cases hz : augD op a b with
            | none => simp only [hz] at g1; exact g1.elim
            | some z =>
              simp only [hz] at g1
              exact hop W1 σ H1 env o1 u v a b z _ S1 (l1.d.rep ru) r1 hz fun w W2 H2 l2 S2 r2 => g1 _ W2 H2 l2.s (S2.set ⟨w, rfl, r2⟩)
          | _ => exact g.elim
      | _ => simp [chkS] at h
    | _ => simp [chkS] at h
  | .app i e, X, sc, W0, st, c, tk, h => by
    cases st with
    | Expr cl pos =>
      cases cl with
      | Call f es' kws cpos =>
        cases f with
        | Attribute o m apos =>
          cases o with
          | Name x px =>
            cases kws with
            | cons _ _ => simp [chkS] at h
            | nil =>
              cases es' with
              | nil => simp [chkS] at h
              | cons e' er =>
                cases er with
                | cons _ _ => simp [chkS] at h
                | nil =>
                  simp only [chkS, Bool.and_eq_true, Bool.not_eq_true', beq_iff_eq] at h
                  obtain ⟨⟨⟨⟨hx, rfl⟩, hl⟩, he⟩, hs⟩ := h
                  have hv := slot_ok (pos := px) c.c (i := i) (x := x) (by simpa [Bool.and_eq_true, and_assoc] using hx)
                  have hst := star_ok (es := []) (env := X.env) hs
                  refine PS.weak (ps_expr (pe_bm PySem.F.plainAttrs_list PySem.F.slot_list_append PySem.F.type_list_append mt_append hv (pa_cons (soundE e c.c tk he) pa_nil hst) rfl (by rw [hst]; rfl) (by simpa using hl) hst rfl) rfl) ?_
                  rintro D σ H ⟨W, env, obs, S, g⟩
                  have g : LPost X.K CA W0 W D (match env[i]? with
                    | some (.ol ds) => (denE Φ G e env obs).st env fun x o => if ds.length < sizeLine then .nx (env.set i (.ol (ds ++ [x]))) o else .bad
                    | _ => .bad) := g
                  cases hi : env[i]? with
                  | none => rw [hi] at g; exact g.elim
                  | some s =>
                    rw [hi] at g
                    cases s with
                    | ol ds =>
                      obtain ⟨p, vs, hσ, hr, hp, rs⟩ := S.getL hi
                      refine ⟨.ref p, hσ, .inl ⟨rfl, vs, SqL.of hp⟩, ?_⟩
                      refine LS.bnd (rel := relE X.K) S g fun a o1 v W1 H1 l1 S1 r1 g1 => ?_
                      split at g1
                      · rename_i hlt
                        have hp1 : H1 p = some (.lst vs) := (l1.o p _ hr rfl).trans hp
                        have hr1 := l1.r p _ hr
                        exact ⟨p, vs, v, rfl, rfl, hp1, by rw [rs.length]; exact hlt, g1 _ W1 _ .refl (S1.write (List.getElem?_eq_some_iff.mp hi).1 hσ hr1 ((l1.d.reps rs).append (Reps.one r1)) fun s z => by rw [hi] at z; cases z; exact ⟨_, rfl⟩)⟩
                      · exact g1.elim
                    | _ => exact g.elim
          | _ => simp [chkS] at h
        | _ => simp [chkS] at h
      | _ => simp [chkS] at h
    | _ => simp [chkS] at h
  | .ext i e, X, sc, W0, st, c, tk, h => by
    cases st with
    | Expr cl pos =>
      cases cl with
      | Call f es' kws cpos =>
        cases f with
        | Attribute o m apos =>
          cases o with
          | Name x px =>
            cases kws with
            | cons _ _ => simp [chkS] at h
            | nil =>
              cases es' with
              | nil => simp [chkS] at h
              | cons e' er =>
                cases er with
                | cons _ _ => simp [chkS] at h
                | nil =>
                  simp only [chkS, Bool.and_eq_true, Bool.not_eq_true', beq_iff_eq] at h
                  obtain ⟨⟨⟨⟨hx, rfl⟩, hl⟩, he⟩, hs⟩ := h
                  have hv := slot_ok (pos := px) c.c (i := i) (x := x) (by simpa [Bool.and_eq_true, and_assoc] using hx)
                  have hst := star_ok (es := []) (env := X.env) hs
                  refine PS.weak (ps_expr (pe_bm PySem.F.plainAttrs_list PySem.F.slot_list_extend PySem.F.type_list_extend mt_extend hv (pa_cons (soundE e c.c tk he) pa_nil hst) rfl (by rw [hst]; rfl) (by simpa using hl) hst rfl) rfl) ?_
                  rintro D σ H ⟨W, env, obs, S, g⟩
                  have g : LPost X.K CA W0 W D (match env[i]? with
                    | some (.ol ds) => (denE Φ G e env obs).st env fun x o => match x with
                      | .lst es => if ds.length + es.length ≤ sizeLine then .nx (env.set i (.ol (ds ++ es))) o else .bad
                      | _ => .bad
                    | _ => .bad) := g
                  cases hi : env[i]? with
                  | none => rw [hi] at g; exact g.elim
                  | some s =>
                    rw [hi] at g
                    cases s with
                    | ol ds =>
                      obtain ⟨p, vs, hσ, hr, hp, rs⟩ := S.getL hi
                      refine ⟨.ref p, hσ, .inl ⟨rfl, vs, SqL.of hp⟩, ?_⟩
                      refine LS.bnd (rel := relE X.K) S g fun a o1 v W1 H1 l1 S1 r1 g1 => ?_
                      cases a with
                      | lst es =>
                        simp only at g1
                        split at g1
                        · rename_i hlt
                          have hp1 : H1 p = some (.lst vs) := (l1.o p _ hr rfl).trans hp
                          have hr1 := l1.r p _ hr
                          obtain ⟨q, us, rfl, hq, rq⟩ := S1.lst r1
                          exact ⟨p, q, vs, us, rfl, rfl, hp1, hq, by rw [rs.length, rq.length]; exact hlt, g1 _ W1 _ .refl (S1.write (List.getElem?_eq_some_iff.mp hi).1 hσ hr1 ((l1.d.reps rs).append rq) fun s z => by rw [hi] at z; cases z; exact ⟨_, rfl⟩)⟩
                        · exact g1.elim
                      | _ => exact g1.elim
                    | _ => exact g.elim
          | _ => simp [chkS] at h
        | _ => simp [chkS] at h
      | _ => simp [chkS] at h
    | _ => simp [chkS] at h
  | .put i k e, X, sc, W0, st, c, tk, h => by
    cases st with
    | Assign tgs e' pos =>
      unfold chkS at h
      split at h
      · rename_i x px k' kpos
        simp only [Bool.and_eq_true, Bool.not_eq_true'] at h
        obtain ⟨⟨⟨⟨hx, hk⟩, he⟩, hs⟩, hn⟩ := h
        have hv := slot_ok (pos := px) c.c (i := i) (x := x) (by simpa [Bool.and_eq_true, and_assoc] using hx)
        refine PS.weak (ps_asg (soundE e c.c tk he) (pg_sub hv (soundE k c.c tk hk) set_list (asg_sub hs)) sw_sub (swN_ok hn) rfl) ?_
        rintro D σ H ⟨W, env, obs, S, g⟩
        have g : LPost X.K CA W0 W D (match env[i]? with
          | some (.ol ds) => (denE Φ G e env obs).st env fun x o => (denE Φ G k env o).st env fun y o => match y with
            | .int j => match ixN ds.length j with
              | some n => .nx (env.set i (.ol (ds.set n x))) o
              | none => .bad
            | _ => .bad
          | _ => .bad) := g
        cases hi : env[i]? with
        | none => rw [hi] at g; exact g.elim
        | some s =>
          rw [hi] at g
          cases s with
          | ol ds =>
            obtain ⟨p, vs, hσ, hr, hp, rs⟩ := S.getL hi
            refine LS.bnd (rel := relE X.K) S g fun a o1 v W1 H1 l1 S1 r1 g1 => ?_
            refine ⟨.ref p, hσ, ?_⟩
            refine LS.bnd (rel := relE X.K) S1 g1 fun b o2 u W2 H2 l2 S2 r2 g2 => ?_
            cases b with
            | int j =>
              cases r2
              cases hj : ixN ds.length j with
              | none => simp only [hj] at g2; exact g2.elim
              | some m =>
                simp only [hj] at g2
                have l12 := l1.trans l2
                have hp1 : H2 p = some (.lst vs) := (l12.o p _ hr rfl).trans hp
                have hr1 := l12.r p _ hr
                exact ⟨p, vs, j, m, rfl, rfl, hp1, by rw [rs.length]; exact hj, g2 _ W2 _ .refl (S2.write (List.getElem?_eq_some_iff.mp hi).1 hσ hr1 ((l12.d.reps rs).set m (l2.d.rep r1)) fun s z => by rw [hi] at z; cases z; exact ⟨_, rfl⟩)⟩
            | _ => exact g2.elim
          | _ => exact g.elim
      · cases h
    | _ => simp [chkS] at h
  | .oput a k e, X, sc, W0, st, c, tk, h => by
    cases st with
    | Assign tgs e' pos =>
      unfold chkS at h
      split at h
      · rename_i a' k' kpos
        simp only [Bool.and_eq_true, Bool.not_eq_true'] at h
        obtain ⟨⟨⟨⟨ha, hk⟩, he⟩, hs⟩, hn⟩ := h
        refine PS.weak (ps_asg (soundE e c.c tk he) (pg_sub (soundE a c.c tk ha) (soundE k c.c tk hk) set_list (asg_sub hs)) sw_sub (swN_ok hn) rfl) ?_
        rintro D σ H ⟨W, env, obs, S, g⟩
        refine LS.bnd (rel := relE X.K) S g fun x o1 v W1 H1 l1 S1 r1 g1 => ?_
        refine LS.bnd (rel := relE X.K) S1 g1 fun y o2 u W2 H2 l2 S2 r2 g2 => ?_
        refine LS.bnd (rel := relE X.K) S2 g2 fun z o3 w W3 H3 l3 S3 r3 g3 => ?_
        cases z with
        | int j =>
          cases r3
          cases hl : lsO o3 y with
          | none => simp only [hl] at g3; exact g3.elim
          | some ds =>
            cases hj : ixN ds.length j with
            | none => simp only [hl, hj] at g3; exact g3.elim
            | some m =>
              simp only [hl, hj] at g3
              obtain ⟨n, rfl, e3⟩ := lsO_some hl
              obtain ⟨p, vs, rfl, hA, hp, rs⟩ := S3.ols (l3.d.rep r2) e3
              obtain ⟨S4, l4⟩ := S3.owrite (o := .lst (vs.set m v)) (ob := .ls (ds.set m x)) hA (List.getElem?_eq_some_iff.mp e3).1 ⟨_, upd_same, rs.set m ((l2.trans l3).d.rep r1)⟩
              exact ⟨p, vs, j, m, rfl, rfl, hp, by rw [rs.length]; exact hj, g3 _ W3 _ l4.s S4⟩
        | _ => exact g3.elim
      · cases h
    | _ => simp [chkS] at h
  | .ret e, X, sc, W0, st, c, tk, h => by
    cases st with
    | Return oe pos =>
      cases oe with
      | none => simp [chkS] at h
      | some e' =>
        refine PS.weak (ps_ret (soundE e c.c tk (by simpa [chkS] using h))) ?_
        rintro D σ H ⟨W, env, obs, S, g⟩
        exact LS.bnd (rel := relE X.K) S g fun a o1 v W1 H1 l1 S1 r1 g1 => g1 v W1 H1 .refl S1.h r1
    | _ => simp [chkS] at h
  | .ret0, X, sc, W0, st, c, tk, h => by
    cases st with
    | Return oe pos =>
      cases oe with
      | none => exact PS.weak ps_retN fun D σ H ⟨W, env, obs, S, g⟩ => g .non W H .refl S.h .non
      | some _ => simp [chkS] at h
    | _ => simp [chkS] at h
  | .mv i, X, sc, W0, st, c, tk, h => by
    cases st with
    | Return oe pos =>
      cases oe with
      | none => simp [chkS] at h
      | some e' =>
        cases e' with
        | Name x px =>
          refine PS.weak (ps_ret (slot_ok (i := i) c.c (by simpa [chkS] using h))) ?_
          rintro D σ H ⟨W, env, obs, S, g⟩
          have g : LPost X.K CA W0 W D (match env[i]? with
            | some (.ol ds) => .rt (.lst ds) obs
            | _ => .bad) := g
          cases hi : env[i]? with
          | none => rw [hi] at g; exact g.elim
          | some s =>
            rw [hi] at g
            cases s with
            | ol ds =>
              obtain ⟨W2, l2, S2⟩ := S.freeze hi
              obtain ⟨v, hσ, rv⟩ := S2.get (i := i) (d := .lst ds) (by rw [List.getElem?_set_self (List.getElem?_eq_some_iff.mp hi).1])
              exact ⟨v, hσ, g v W2 H l2 S2.h rv⟩
            | _ => exact g.elim
        | _ => simp [chkS] at h
    | _ => simp [chkS] at h
  | .ife k a b, X, sc, W0, st, c, tk, h => by
    cases st with
    | If k' a' b' pos =>
      simp only [chkS, Bool.and_eq_true] at h
      obtain ⟨⟨h1, h2⟩, h3⟩ := h
      refine PS.weak (ps_if (soundT k c.c tk h1) (soundSs a c tk h2) (soundSs b c tk h3)) ?_
      rintro D σ H ⟨W, env, obs, S, g⟩
      refine LS.bnd (rel := relT) S g fun x o1 v W1 H1 l1 S1 r1 g1 => ?_
      have r1 : v = x := r1
      subst r1
      cases v with
      | true => exact ⟨W1, env, o1, S1, g1⟩
      | false => exact ⟨W1, env, o1, S1, g1⟩
    | _ => simp [chkS] at h
  | .whl k b, X, sc, W0, st, c, tk, h => by
    cases st with
    | While k' b' oe pos =>
      cases oe with
      | cons _ _ => simp [chkS] at h
      | nil =>
        simp only [chkS, Bool.and_eq_true] at h
        refine PS.weak (ps_while c.own (soundT k c.c tk h.1) (soundSs b c tk h.2)) ?_
        rintro D σ H ⟨W, env, obs, S, g⟩
        refine ⟨fun m σ' H' => ∃ W' env' o', SRel X.K CA W' σ' H' env' o' ∧ LPost X.K CA W0 W' D (whileD (denT Φ G k) (denSs Φ G M b) m env' o'), ⟨M, W, env, obs, S, g⟩, ?_⟩
        rintro m σ1 H1 ⟨W1, env1, o1, S1, g1⟩
        cases m with
        | zero => exact g1.elim
        | succ m =>
          refine LS.bnd (rel := relT) S1 g1 fun x o2 v W2 H2 l2 S2 r2 g2 => ?_
          have r2 : v = x := r2
          subst r2
          cases v with
          | false => exact g2 _ W2 H2 .refl S2
          | true =>
            rw [if_pos rfl]
            refine ⟨_, fun σ' H' q => ⟨m, Nat.lt_succ_self m, q⟩, W2, env1, o2, S2, ?_⟩
            simp only [if_true] at g2
            cases hb : denSs Φ G M b env1 o2 with
            | nx e o => rw [hb] at g2; exact fun σ' W' H' l S' => ⟨W', e, o, S', LPost.mono l g2⟩
            | ct e o => rw [hb] at g2; exact fun σ' W' H' l S' => ⟨W', e, o, S', LPost.mono l g2⟩
            | bk e o => rw [hb] at g2; exact g2
            | rt d o => rw [hb] at g2; exact g2
            | ex cc a e o => rw [hb] at g2; exact g2
            | bad => rw [hb] at g2; exact g2
    | _ => simp [chkS] at h
  | .for_ tg it b, X, sc, W0, st, c, tk, h => by
    cases st with
    | For tg' it' b' oe pos =>
      cases oe with
      | cons _ _ => simp [chkS] at h
      | nil =>
        simp only [chkS, Bool.and_eq_true] at h
        obtain ⟨⟨h1, h2⟩, h3⟩ := h
        obtain ⟨hg, _⟩ := pg_of c.c.hN c.c.nd c.c.calm c.loc h2
        refine PS.weak (ps_for c.own c.c.calm (soundI it c.c tk h1) hg (soundSs b c tk h3) (folded_ok (chkI_set h1))) ?_
        rintro D σ H ⟨W, env, obs, S, g⟩
        refine LS.bnd (rel := relI X.K CA) S g fun ds o1 J W1 H1 l1 S1 wk g1 => ?_
        refine ⟨fun i m σ' H' => m = ds.length - i ∧ ∃ W' env' o', W1.leS W' ∧ SRel X.K CA W' σ' H' env' o' ∧ LPost X.K CA W0 W' D (forD tg (denSs Φ G M b) (ds.drop i) env' o'), ⟨ds.length, by simp, W1, env, o1, .refl, S1, by rw [List.drop_zero]; exact g1⟩, ?_⟩
        rintro i m σ2 H2 ⟨rfl, W2, env2, o2, l2, S2, g2⟩
        cases hd : ds.drop i with
        | nil =>
          rw [hd] at g2
          exact .inl ⟨wk.stop i W2 σ2 H2 env2 o2 l2 S2 (List.drop_eq_nil_iff.mp hd), g2 _ W2 H2 .refl S2⟩
        | cons d rest =>
          rw [hd] at g2
          have hil : i < ds.length := by
            apply Nat.lt_of_not_le
            intro q
            rw [List.drop_eq_nil_of_le q] at hd; cases hd
          have hdi : ds[i]? = some d := by
            have := List.getElem?_drop (xs := ds) (i := i) (j := 0)
            rw [hd] at this; simpa using this.symm
          have hrest : ds.drop (i + 1) = rest := by
            have := List.drop_drop (i := 1) (j := i) (l := ds)
            rw [hd] at this; simpa [Nat.add_comm] using this.symm
          obtain ⟨hgo, hy⟩ := wk.go i d W2 σ2 H2 env2 o2 l2 S2 hdi
          refine .inr ⟨hgo, _, fun σ' H' q => ⟨ds.length - (i + 1), by omega, q⟩, fun v H3 y3 => ?_⟩
          obtain ⟨W3, l3, S3, rv⟩ := hy v H3 y3
          unfold forD at g2
          cases es : setTg tg d env2 with
          | none => simp only [es] at g2; exact g2.elim
          | some env3 =>
            simp only [es] at g2
            have g3 := LPost.mono l3.s g2
            refine tg_of S3 rv es fun σ' S4 _ => ⟨W3, env3, o2, S4, ?_⟩
            cases hb : denSs Φ G M b env3 o2 with
            | nx e o => rw [hb] at g3; exact fun σ' W' H' l S' => ⟨rfl, W', e, o, l2.trans (l3.s.trans l), S', by rw [hrest]; exact LPost.mono l g3⟩
            | ct e o => rw [hb] at g3; exact fun σ' W' H' l S' => ⟨rfl, W', e, o, l2.trans (l3.s.trans l), S', by rw [hrest]; exact LPost.mono l g3⟩
            | bk e o => rw [hb] at g3; exact g3
            | rt d o => rw [hb] at g3; exact g3
            | ex cc a e o => rw [hb] at g3; exact g3
            | bad => rw [hb] at g3; exact g3
    | _ => simp [chkS] at h
  | .exp e, X, sc, W0, st, c, tk, h => by
    cases st with
    | Expr e' pos =>
      simp only [chkS, Bool.and_eq_true, Bool.not_eq_true'] at h
      refine PS.weak (ps_expr (soundE e c.c tk h.1) (sw_none h.2)) ?_
      rintro D σ H ⟨W, env, obs, S, g⟩
      exact LS.bnd (rel := relE X.K) S g fun a o1 v W1 H1 l1 S1 r1 g1 => g1 _ W1 H1 .refl S1
    | _ => simp [chkS] at h
  | .pass, X, sc, W0, st, c, tk, h => by
    cases st with
    | Pass pos => exact PS.weak ps_pass fun D σ H ⟨W, env, obs, S, g⟩ => g σ W H .refl S
    | _ => simp [chkS] at h
  | .brk, X, sc, W0, st, c, tk, h => by
    cases st with
    | Break pos => exact PS.weak ps_break fun D σ H ⟨W, env, obs, S, g⟩ => g σ W H .refl S
    | _ => simp [chkS] at h
  | .cnt, X, sc, W0, st, c, tk, h => by
    cases st with
    | Continue pos => exact PS.weak ps_continue fun D σ H ⟨W, env, obs, S, g⟩ => g σ W H .refl S
    | _ => simp [chkS] at h
theorem soundSs : ∀ (m : Ss) {X : Cx} {sc : Scope} {W0 : WX} {st : List Stmt}, CtxS CA fs bs N G Φ n sc X → Takes X W0 → chkSs fs bs N sc m st = true → PSs X st (LS X.K CA W0 (denSs Φ G M m))
  | .nil, X, sc, W0, st, c, tk, h => by
    cases st with
    | nil => exact PSs.weak pss_nil fun D σ H ⟨W, env, obs, S, g⟩ => g σ W H .refl S
    | cons _ _ => simp [chkSs] at h
  | .cons s r, X, sc, W0, st, c, tk, h => by
    cases st with
    | nil => simp [chkSs] at h
    | cons s' r' =>
      simp only [chkSs, Bool.and_eq_true] at h
      refine PSs.weak (pss_cons (soundS s c tk h.1) (soundSs r c tk h.2)) ?_
      rintro D σ H ⟨W, env, obs, S, g⟩
      refine ⟨W, env, obs, S, ?_⟩
      have g : LPost X.K CA W0 W D ((denS Φ G M s env obs).seq fun env o => denSs Φ G M r env o) := g
      cases hs : denS Φ G M s env obs with
      | nx e o => rw [hs] at g; exact fun σ' W' H' l S' => ⟨W', e, o, S', LPost.mono l g⟩
      | ct e o => rw [hs] at g; exact g
      | bk e o => rw [hs] at g; exact g
      | rt d o => rw [hs] at g; exact g
      | ex cc a e o => rw [hs] at g; exact g
      | bad => rw [hs] at g; exact g
  | .frz i r, X, sc, W0, st, c, tk, h => by
    refine PSs.weak (soundSs r c tk (by simpa [chkSs] using h)) ?_
    rintro D σ H ⟨W, env, obs, S, g⟩
    have g : LPost X.K CA W0 W D (match env[i]? with
      | some (.ol ds) => denSs Φ G M r (env.set i (.v (.lst ds))) obs
      | _ => denSs Φ G M r env obs) := g
    cases hi : env[i]? with
    | none => rw [hi] at g; exact ⟨W, env, obs, S, g⟩
    | some s =>
      rw [hi] at g
      cases s with
      | ol ds =>
        obtain ⟨W2, l2, S2⟩ := S.freeze hi
        exact ⟨W2, _, obs, S2, LPost.mono l2 g⟩
      | _ => exact ⟨W, env, obs, S, g⟩
end
end
end Mp

set_option Elab.async false
set_option linter.all false
set_option maxRecDepth 100000
set_option maxHeartbeats 4000000
/-! Defs and programs; the end of a law. -/
namespace Mp
open PySem PySem.Spec PyProof.Rows L2

theorem reps_start {K : PySem.W.Frag} {CA : Str → Option Addr} {W : Wd} {H : Hp} {obs : Obs} {N : List Str} {vs : List V} {ds : List D} (h : HRel K CA W H obs) (r : W.reps K vs ds) (hl : vs.length ≤ N.length) :
    SRel K CA W (L2.start N vs) H (ds.map .v ++ List.replicate (N.length - ds.length) .un) obs := by
  have hlen := r.length
  refine ⟨h, by simp [L2.start, hlen], fun i s e => ?_⟩
  by_cases hi : i < ds.length
  · rw [List.getElem?_append_left (by simpa using hi), List.getElem?_map] at e
    cases q : ds[i]? with
    | none => rw [q] at e; cases e
    | some d =>
      rw [q] at e
      cases e
      obtain ⟨v, hv, rv⟩ := r.get q
      refine ⟨v, ?_, rv⟩
      unfold L2.start
      rw [List.getElem?_append_left (by simp [hlen]; exact hi), List.getElem?_map, hv]
      rfl
  · rw [List.getElem?_append_right (by simpa using hi)] at e
    obtain ⟨hlt, e'⟩ := List.getElem?_eq_some_iff.mp e
    rw [List.getElem_replicate] at e'
    subst e'
    trivial
/-- a def of the text keeps the promise of its meaning -/
theorem fn_sound {P : Program} {w : World} {K : PySem.W.Frag} {mg : Str → Option Value} {base : Heap} {CA : Str → Option Addr} {fs bs N ps : List Str} {G : Str → Option D} {Φ : Str → List D → Obs → R D} {n M : Nat} {x qual : Str} {st : Stmt} {f : Addr} {fd : FuncData} {e : Fn}
    (F : Fun K x qual st f fd) (S : FnScope N ps (defScope st)) (hps : ps.length = e.ps) (hN : N.length = e.sl) (hle : e.ps ≤ e.sl) (h : chkSs fs bs N (defScope st) e.body (defBody st) = true) (mo : Mo K CA P w mg base fs bs G Φ n) :
    FnOk P w K mg base (L2.CX P w) (n + 1) f fd ps (spC K CA (runFn e Φ G M)) := by
  refine F.okX S (fun vs H Q E hsp => ?_) (fun cdv A outer s H vs Q E hr hsp => ?_)
  · obtain ⟨W, obs, ds, HR, nl, r, g⟩ := hsp
    unfold runFn at g
    by_cases hl : ds.length = e.ps
    · rw [Reps.length r, hl, hps]
    · rw [if_neg hl] at g; exact g.elim
  · obtain ⟨W, obs, ds, HR, nl, r, g⟩ := hsp
    have c : CtxS CA fs bs N G Φ n (defScope st) (cxOf (L2.CX P w) P w K mg base N qual (defScope st) f cdv A outer s H E) :=
      ⟨⟨rfl, S.nd, rfl, rfl, hr, mo⟩, passes_of rfl, fun _ => rfl, S.kind, rfl, rfl⟩
    have tk : Takes (cxOf (L2.CX P w) P w K mg base N qual (defScope st) f cdv A outer s H E) (fun cls d _ H => E cls d H) := takes_of rfl rfl rfl rfl
    refine ⟨_, soundSs (M := M) e.body c tk h, ?_⟩
    unfold runFn at g
    by_cases hl : ds.length = e.ps
    · rw [if_pos hl] at g
      have hN' : N.length - ds.length = e.sl - e.ps := by rw [hN, hl]
      have S0 := reps_start (N := N) HR r (by rw [r.length, hl, hN]; exact hle)
      rw [hN'] at S0
      refine ⟨W, _, obs, S0, ?_⟩
      cases hd : denSs Φ G M e.body (ds.map .v ++ List.replicate (e.sl - e.ps) .un) obs with
      | nx env o => rw [hd] at g; exact fun σ' W' H' l S' => g .non W' H' l S'.h .non
      | rt d o => rw [hd] at g; exact fun v W' H' l S' rv => g v W' H' l S' rv
      | bk env o => rw [hd] at g; exact g.elim
      | ct env o => rw [hd] at g; exact g.elim
      | ex cc a env o => rw [hd] at g; exact fun cls dd σ' W' H' l S' x => g cls dd W' H' l S'.h x
      | bad => rw [hd] at g; exact g.elim
    · rw [if_neg hl] at g; exact g.elim

theorem spC_bad {P : Program} {w : World} {K : PySem.W.Frag} {mg : Str → Option Value} {base : Heap} {CX : CXT} {CA : Str → Option Addr} {n : Nat} {f : Addr} {fd : FuncData} {ps : List Str} {g : List D → Obs → R D} (hg : ∀ ds o, g ds o = .bad) : FnOk P w K mg base CX n f fd ps (spC K CA g) :=
  ⟨fun vs H Q E ⟨W, obs, ds, _, _, _, h⟩ => by rw [hg] at h; exact h.elim, fun A outer s H args us vs Q E _ _ _ _ ⟨W, obs, ds, _, _, _, h⟩ => by rw [hg] at h; exact h.elim⟩
/-- a def as the top has left it -/
structure DefOk (K : PySem.W.Frag) (mg : Str → Option Value) (fs bs : List Str) (x : Str) (e : Fn) : Prop where
  ex : ∃ st f fd N ps, Fun K x x st f fd ∧ FnScope N ps (defScope st) ∧ ps.length = e.ps ∧ N.length = e.sl ∧ e.ps ≤ e.sl ∧ chkSs fs bs N (defScope st) e.body (defBody st) = true ∧ mg x = some (.ref f) ∧ Binds K fd ps []
/-- a def whose meaning is told, and shown by hand -/
structure XtOk (P : Program) (w : World) (K : PySem.W.Frag) (mg : Str → Option Value) (base : Heap) (CA : Str → Option Addr) (x : Str) (k : Nat) (g : List D → Obs → R D) : Prop where
  ex : ∃ f fd ps, FnOk P w K mg base (L2.CX P w) k f fd ps (spC K CA g) ∧ PySem.W.keepIn K (.ref f) = true ∧ mg x = some (.ref f) ∧ Binds K fd ps []
theorem pg_sound {P : Program} {w : World} {K : PySem.W.Frag} {mg : Str → Option Value} {base : Heap} {CA : Str → Option Addr} {fs bs : List Str} {Q : Pg} {M : Nat}
    (hcl : ∀ c, clsNm c ∈ bs → ClsOk P w K mg base CA c) (hb : ∀ x ∈ bs, mg x = none) (hg : ∀ x d, Q.gl.lookup x = some d → ∃ u v, mg x = some u ∧ RelV v u ∧ Rep K (fun _ => none) [] v d)
    (hd : ∀ x e, Q.fn.lookup x = some e → DefOk K mg fs bs x e) (hx : ∀ x e, Q.xt.lookup x = some e → XtOk P w K mg base CA x e.1 e.2)
    (hf : ∀ f ∈ fs, (∃ e, Q.fn.lookup f = some e) ∨ ∃ e, Q.xt.lookup f = some e) : ∀ n, Mo K CA P w mg base fs bs (fun x => Q.gl.lookup x) (Q.call M n) (n + 2) := by
  intro n
  induction n with
  | zero =>
    refine ⟨hb, hg, fun f hm => ?_, hcl, Nat.le_refl _⟩
    rcases hf f hm with ⟨e, he⟩ | ⟨e, he⟩
    · obtain ⟨st, a, fd, N, ps, F, S, _, _, _, _, hmg, hbd⟩ := (hd f e he).ex
      exact ⟨a, fd, ps, spC_bad fun _ _ => rfl, hmg, F.kp, hbd⟩
    · obtain ⟨a, fd, ps, _, hk, hmg, hbd⟩ := (hx f e he).ex
      exact ⟨a, fd, ps, spC_bad fun _ _ => rfl, hmg, hk, hbd⟩
  | succ n ih =>
    refine ⟨hb, hg, fun f hm => ?_, hcl, Nat.le_add_left 2 (n + 1)⟩
    cases hfn : Q.fn.lookup f with
    | some e =>
      obtain ⟨st, a, fd, N, ps, F, S, h1, h2, h3, h4, hmg, hbd⟩ := (hd f e hfn).ex
      refine ⟨a, fd, ps, ?_, hmg, F.kp, hbd⟩
      have := fn_sound (M := M) F S h1 h2 h3 h4 ih
      have e2 : Q.call M (n + 1) f = runFn e (Q.call M n) (fun x => Q.gl.lookup x) M := by
        funext ds o
        show (match Q.fn.lookup f with
          | some e => runFn e (Q.call M n) (fun x => Q.gl.lookup x) M ds o
          | none => _) = _
        rw [hfn]
      rw [e2]; exact this
    | none =>
      rcases hf f hm with ⟨e, he⟩ | ⟨e, he⟩
      · rw [hfn] at he; cases he
      · obtain ⟨a, fd, ps, F, hk, hmg, hbd⟩ := (hx f e he).ex
        refine ⟨a, fd, ps, ?_, hmg, hk, hbd⟩
        have e2 : Q.call M (n + 1) f = fun ds o => if e.1 ≤ n + 1 then e.2 ds o else .bad := by
          funext ds o
          show (match Q.fn.lookup f with
            | some e => runFn e (Q.call M n) (fun x => Q.gl.lookup x) M ds o
            | none => (match Q.xt.lookup f with
              | some g => if g.1 ≤ n + 1 then g.2 ds o else .bad
              | none => .bad)) = _
          rw [hfn, he]
        rw [e2]
        by_cases hk2 : e.1 ≤ n + 1
        · have e3 : (fun ds o => if e.1 ≤ n + 1 then e.2 ds o else .bad) = e.2 := by
            funext ds o; rw [if_pos hk2]
          rw [e3]; exact F.mono (Nat.le_trans hk2 (Nat.le_add_right (n + 1) 2))
        · exact spC_bad fun ds o => if_neg hk2
/-- the law's def, of a script -/
theorem law_sp {K : PySem.W.Frag} {CA : Str → Option Addr} {g : List D → Obs → R D} {H : Hp} {a : Addr} {ns : List Int} {E : XK} (ho : Only H) (hS : SqL K H a (ns.map V.int)) (h : ∃ o, g [.loc ns] [] = .ok (.bl true) o) :
    spC K CA g [.ref a] H (fun v _ => v = .bl true) E := by
  obtain ⟨o, h⟩ := h
  have hF : ∀ p u, (⟨fun p => if p = a then (H a).map Role.fro else none, []⟩ : Wd).ρ p = some u → p = a ∧ ∃ x, H a = some x ∧ u = .fro x := fun p u e => by
    have e' : (if p = a then (H a).map Role.fro else none) = some u := e
    split at e'
    · rename_i hp
      cases q : H a with
      | none => rw [q] at e'; cases e'
      | some x => rw [q] at e'; exact ⟨hp, x, rfl, (Option.some.inj e').symm⟩
    · cases e'
  refine ⟨⟨fun p => if p = a then (H a).map Role.fro else none, []⟩, [], [.loc ns], ⟨fun p u e => ?_, fun p u e => ?_, fun p u e => ?_, rfl, fun n ob e => by simp at e⟩, fun p u e => ?_, .cons (.loc ?_) .nil, ?_⟩
  · obtain ⟨rfl, x, hx, z⟩ := hF p _ e
    cases z; exact hx
  · obtain ⟨_, x, _, z⟩ := hF p _ e
    cases z
  · obtain ⟨rfl, x, hx, z⟩ := hF p _ e
    exact ⟨x, hx⟩
  · obtain ⟨_, x, _, z⟩ := hF p _ e
    subst z; rfl
  · have hA : ∀ u, H a = some u → (⟨fun p => if p = a then (H a).map Role.fro else none, []⟩ : Wd).F a = some u := fun u e => by
      rw [Wd.F_of]
      show (if a = a then (H a).map Role.fro else none) = _
      rw [if_pos rfl, e]; rfl
    rcases hS with (q | ⟨u, q⟩) | q
    · exact .inl (.inl (hA _ q))
    · exact .inl (.inr ⟨u, hA _ q⟩)
    · exact .inr q
  · rw [h]
    intro v W' H' _ _ r
    exact r.to_bl
end Mp

set_option Elab.async false
set_option linter.all false
set_option maxRecDepth 100000
set_option maxHeartbeats 4000000
/-! From what the top has written to the law. -/
namespace Mp
open PySem PySem.Spec PyProof.Rows L2

/-- a def as the top has written it -/
structure DFact (K : PySem.W.Frag) (x : Str) (st : Stmt) (f : Addr) (kV doc pm : Value) (an : Option Addr) (cdv ct : Value) : Prop where
  ns : PySem.W.nsIn K mainGlobals x = some (some (.ref f))
  lk : ∃ oc od osl, K.lookup f = some ⟨oc, od, .func (PySem.W.fnOf x x (defArgs st) (defBody st) (defScope st) .none kV doc pm an cdv ct), osl⟩
  cd : PySem.W.codeIn K cdv x = true
  kp : PySem.W.keepIn K (.ref f) = true
/-- it binds so many arguments -/
def BindN (x : Str) (st : Stmt) (ps : List Str) : Prop := ∀ (kV doc pm : Value) (an : Option Addr) (cdv ct : Value) (us : List Value), us.length = ps.length → bindArgs (PySem.W.fnOf x x (defArgs st) (defBody st) (defScope st) .none kV doc pm an cdv ct) ⟨us, []⟩ = pure (ps.zip us)
/-- a def that is known, whatever the rest of it is -/
def Known (K : PySem.W.Frag) (x : Str) (st : Stmt) : Prop := ∃ f kV doc pm an cdv ct, DFact K x st f kV doc pm an cdv ct
theorem known {K : PySem.W.Frag} {x : Str} {st : Stmt} {f : Addr} {oc : Value} {od an : Option Addr} {osl : Array (Option Value)} {kV doc pm cdv ct : Value} (a : PySem.W.nsIn K mainGlobals x = some (some (.ref f)))
    (l : K.lookup f = some ⟨oc, od, .func (PySem.W.fnOf x x (defArgs st) (defBody st) (defScope st) .none kV doc pm an cdv ct), osl⟩) (c : PySem.W.codeIn K cdv x = true) (k : PySem.W.keepIn K (.ref f) = true) : Known K x st := ⟨f, kV, doc, pm, an, cdv, ct, a, ⟨_, _, _, l⟩, c, k⟩
/-- the text's side of a def -/
structure DTxt (fs bs : List Str) (x : Str) (st : Stmt) (N ps : List Str) (e : Fn) : Prop where
  S : FnScope N ps (defScope st)
  h1 : ps.length = e.ps
  h2 : N.length = e.sl
  h3 : e.ps ≤ e.sl
  h4 : chkSs fs bs N (defScope st) e.body (defBody st) = true
  b : BindN x st ps
section
variable {K : PySem.W.Frag} {h : Heap} {mg : Str → Option Value} {fs bs : List Str}
theorem Known.ok {x : Str} {st : Stmt} {N ps : List Str} {e : Fn} (X : K.In h) (G : h.Ns mainGlobals mg) (D : Known K x st) (T : DTxt fs bs x st N ps e) : DefOk K mg fs bs x e := by
  obtain ⟨f, kV, doc, pm, an, cdv, ct, a, ⟨oc, od, osl, l⟩, c, k⟩ := D
  have F := fun_mk (st := st) l c k
  exact ⟨st, f, _, N, ps, F, T.S, T.h1, T.h2, T.h3, T.h4, PySem.W.mg_of X G a, F.binds T.b⟩
/-- a list of defs, by their names -/
def DefsOk (K : PySem.W.Frag) (mg : Str → Option Value) (fs bs : List Str) : List (Str × Fn) → Prop
  | [] => True
  | (x, e) :: r => DefOk K mg fs bs x e ∧ DefsOk K mg fs bs r
theorem DefsOk.get : ∀ {l : List (Str × Fn)}, DefsOk K mg fs bs l → ∀ x e, l.lookup x = some e → DefOk K mg fs bs x e
  | [], _, x, e, h => by cases h
  | (y, d) :: r, q, x, e, h => by
    rw [List.lookup_cons] at h
    by_cases hy : x = y
    · subst hy
      simp at h; subst h; exact q.1
    · have : (x == y) = false := by simpa using hy
      rw [this] at h
      exact q.2.get x e h
/-- constants that are numbers or texts -/
def GlOk (K : PySem.W.Frag) (mg : Str → Option Value) : List (Str × D) → Prop
  | [] => True
  | (x, d) :: r => (∃ u v, mg x = some u ∧ RelV v u ∧ Rep K (fun _ => none) [] v d) ∧ GlOk K mg r
theorem GlOk.get : ∀ {l : List (Str × D)}, GlOk K mg l → ∀ x d, l.lookup x = some d → ∃ u v, mg x = some u ∧ RelV v u ∧ Rep K (fun _ => none) [] v d
  | [], _, x, e, h => by cases h
  | (y, d) :: r, q, x, e, h => by
    rw [List.lookup_cons] at h
    by_cases hy : x = y
    · subst hy
      simp at h; subst h; exact q.1
    · have : (x == y) = false := by simpa using hy
      rw [this] at h
      exact q.2.get x e h
theorem gl_int {x : Str} {i : Int} {t : Tok} (X : K.In h) (G : h.Ns mainGlobals mg) (a : PySem.W.nsIn K mainGlobals x = some (some (.int i t))) : ∃ u v, mg x = some u ∧ RelV v u ∧ Rep K (fun _ => none) [] v (.int i) :=
  ⟨_, .int i, PySem.W.mg_of X G a, ⟨t, rfl⟩, .int i⟩
theorem gl_str {x : Str} {i : Str} {t : Tok} (X : K.In h) (G : h.Ns mainGlobals mg) (a : PySem.W.nsIn K mainGlobals x = some (some (.str i t))) : ∃ u v, mg x = some u ∧ RelV v u ∧ Rep K (fun _ => none) [] v (.str i) :=
  ⟨_, .str i, PySem.W.mg_of X G a, ⟨t, rfl⟩, .str i⟩
end
/-! constants of the text, tuples of them too -/
mutual
inductive GV (K : PySem.W.Frag) : Value → V → D → Prop
  | non : GV K .none .non .non
  | bl (b : Bool) : GV K (.bool b) (.bl b) (.bl b)
  | int (i : Int) (t : Tok) : GV K (.int i t) (.int i) (.int i)
  | str (x : Str) (t : Tok) : GV K (.str x t) (.str x) (.str x)
  | tup {p : Addr} {od : Option Addr} {its : Array Value} {n : Nat} {sl : Array (Option Value)} {vs : List V} {ds : List D} (l : K.lookup p = some ⟨.type "tuple", od, .seq its n, sl⟩) (z : its.size ≤ 10000) (h : GVs K its.toList vs ds) : GV K (.ref p) (.ref p) (.tup ds)
inductive GVs (K : PySem.W.Frag) : List Value → List V → List D → Prop
  | nil : GVs K [] [] []
  | cons {u : Value} {v : V} {d : D} {us : List Value} {vs : List V} {ds : List D} : GV K u v d → GVs K us vs ds → GVs K (u :: us) (v :: vs) (d :: ds)
end
mutual
theorem GV.rel {K : PySem.W.Frag} : ∀ {u : Value} {v : V} {d : D}, GV K u v d → RelV v u ∧ Rep K (fun _ => none) [] v d
  | _, _, _, .non => ⟨rfl, .non⟩
  | _, _, _, .bl b => ⟨rfl, .bl b⟩
  | _, _, _, .int i t => ⟨⟨t, rfl⟩, .int i⟩
  | _, _, _, .str x t => ⟨⟨t, rfl⟩, .str x⟩
  | _, _, _, .tup l z h => ⟨rfl, .tup (.inr ⟨_, _, _, l, rfl, rfl, Nat.le_trans z (by decide), (GVs.rel h).1⟩) (GVs.rel h).2⟩
theorem GVs.rel {K : PySem.W.Frag} : ∀ {u : List Value} {v : List V} {d : List D}, GVs K u v d → Vals v u ∧ Reps K (fun _ => none) [] v d
  | _, _, _, .nil => ⟨.nil, .nil⟩
  | _, _, _, .cons a b => ⟨.cons (GV.rel a).1 (GVs.rel b).1, .cons (GV.rel a).2 (GVs.rel b).2⟩
end
/-- a constant as the top has left it -/
def GC (K : PySem.W.Frag) (x : Str) (d : D) : Prop := ∃ u v, PySem.W.nsIn K mainGlobals x = some (some u) ∧ GV K u v d
theorem gc {K : PySem.W.Frag} {x : Str} {d : D} {u : Value} {v : V} (a : PySem.W.nsIn K mainGlobals x = some (some u)) (g : GV K u v d) : GC K x d := ⟨u, v, a, g⟩
section
variable {K : PySem.W.Frag} {h : Heap} {mg : Str → Option Value} {fs bs : List Str}
theorem GC.ok {x : Str} {d : D} (X : K.In h) (G : h.Ns mainGlobals mg) (a : GC K x d) : ∃ u v, mg x = some u ∧ RelV v u ∧ Rep K (fun _ => none) [] v d := by
  obtain ⟨u, v, a, g⟩ := a
  exact ⟨u, v, PySem.W.mg_of X G a, g.rel.1, g.rel.2⟩
def BsOk (mg : Str → Option Value) : List Str → Prop
  | [] => True
  | x :: r => mg x = none ∧ BsOk mg r
theorem BsOk.get : ∀ {l : List Str}, BsOk mg l → ∀ x ∈ l, mg x = none
  | [], _, _, h => by cases h
  | y :: r, q, x, h => by
    rcases List.mem_cons.mp h with rfl | h
    · exact q.1
    · exact q.2.get x h
/-- where the top has left a class -/
def CAof (K : PySem.W.Frag) (c : Str) : Option Addr := match PySem.W.nsIn K mainGlobals c with
  | some (some (.ref C)) => some C
  | _ => none
/-- an exception class as the top has left it -/
def ClK (P : Program) (K : PySem.W.Frag) (c : Str) : Prop := ∃ C fI cc cda st msg, PySem.W.nsIn K mainGlobals c = some (some (.ref C)) ∧ BadT st msg ∧ BadC P K st C fI cc cda
theorem clk {P : Program} {K : PySem.W.Frag} {c : Str} {st : Stmt} {msg : Str} (T : BadT st msg) {C fI cc cda : Addr} {nm q qual file : Str} {N : Addr} {bs bm : List Value} {sn : List Str} {sub : List Value} {ab : Bool} {col : Option Bool} {dd : Option Addr} {k0 k1 k2 k3 k5 : Option Value}
    {oc kV doc pm ct ccl cl : Value} {od an cdd cld : Option Addr} {osl ccs csl : Array (Option Value)} {vs : Array Value} {tk : Tok}
    (a : PySem.W.nsIn K mainGlobals c = some (some (.ref C)))
    (xL : K.lookup C = some (excClassObj nm q C N bs bm true sn sub ab col dd k0 k1 k2 k3 k5 "ValueError.__new__")) (rv : PySem.HandSPX.refsVE bm = true)
    (sa : PySem.W.findIn K (.ref C) "__setattr__" = some (some (.builtin "object.__setattr__"))) (eb : PySem.W.subIn K (.ref C) (.type "BaseException") = some true) (ty : PySem.W.typeIn K (.ref C) = some (.type "type")) (kp : PySem.W.keepIn K (.ref C) = true)
    (ini : PySem.W.findIn K (.ref C) "__init__" = some (some (.ref fI))) (tf : PySem.W.typeIn K (.ref fI) = some (.type "function"))
    (lf : K.lookup fI = some ⟨oc, od, .func (PySem.W.ksFn "__init__" qual (defArgs st) (defBody st) (defScope st) .none kV doc pm an (.ref cda) ct cc), osl⟩) (cf : PySem.W.codeIn K (.ref cda) qual = true)
    (lc : K.lookup cda = some ⟨ccl, cdd, .fields vs, ccs⟩) (v2 : vs[2]? = some (.str file tk)) (fl : ((P.main.file : Str) == file) = true) (ce : K.lookup cc = some ⟨cl, cld, .cell (some (.ref C)), csl⟩)
    (mr : PySem.W.mroIn K C (.ref C) = some true) (su : PySem.W.ks_superIn K C C "__init__" = some (some (.builtin "ValueError.__init__"))) (ve : PySem.W.subIn K (.ref C) (.type "ValueError") = some true)
    (s1 : PySem.W.nsIn K mainGlobals "super" = some none) (s2 : PySem.W.nsIn K mainGlobals "str" = some none) (tp : PySem.W.nsIn K cStatics "thirdparty.any" = some none) (pl : PySem.W.findIn K (.ref C) "place" = some none)
    (ga : PySem.W.findIn K (.ref C) "__getattribute__" = some (some (.builtin "BaseException.__getattribute__"))) (gg : PySem.W.findIn K (.ref C) "__getattr__" = some none) (hd : PySem.W.hasDictIn K C = true) (ex : PySem.W.exmOne K (.ref C) (.ref C) = some true)
    (top : (P.main.scope.names.lookup ("super" : Str)).isSome = false) : ClK P K c :=
  ⟨C, fI, cc, cda, st, msg, a, T, ⟨⟨⟨nm, q, N, bs, bm, sn, sub, ab, col, dd, k0, k1, k2, k3, k5, xL, rv⟩, sa, eb, ty, kp⟩, ini, tf, ⟨oc, od, osl, qual, kV, doc, pm, an, ct, lf, cf⟩, ⟨ccl, cdd, vs, ccs, file, tk, lc, v2, fl⟩, ⟨cl, cld, csl, ce⟩,
    ⟨_, by unfold PySem.W.clsIn; rw [xL]⟩, mr, su, ve, s1, s2, tp, pl, ⟨ga, gg, eb, hd⟩, ex, top⟩⟩
def ClsL (P : Program) (K : PySem.W.Frag) : List Str → Prop
  | [] => True
  | c :: r => ClK P K c ∧ ClsL P K r
theorem ClsL.get {P : Program} : ∀ {l : List Str}, ClsL P K l → ∀ c ∈ l, ClK P K c
  | [], _, _, h => by cases h
  | y :: r, q, x, h => by
    rcases List.mem_cons.mp h with rfl | h
    · exact q.1
    · exact q.2.get x h
theorem ClK.ok {P : Program} {w : World} {base : Heap} {c : Str} (X : K.In h) (G : h.Ns mainGlobals mg) (q : ClK P K c) : ClsOk P w K mg base (CAof K) c := by
  obtain ⟨C, fI, cc, cda, st, msg, hn, T, B⟩ := q
  obtain ⟨fd, F, b⟩ := init_ok (w := w) (mg := mg) (base := base) T B (PySem.W.mg_none_of X G B.s1) (PySem.W.mg_none_of X G B.s2)
  exact ⟨C, fI, fd, by unfold CAof; rw [hn], PySem.W.mg_of X G hn, B.o, B.ini, B.typ, F, b, B.xf, B.pl, B.ex⟩
theorem clsNm_inj {a b : Str} (h : clsNm a = clsNm b) : a = b := by
  have h1 : (clsNm a).cps = (clsNm b).cps := by rw [h]
  have h2 : (("!" : Str).cps ++ a.cps) = (("!" : Str).cps ++ b.cps) := h1
  have h3 : a.cps = b.cps := by
    have := congrArg Array.toList h2
    simp only [Array.toList_append] at this
    have := List.append_cancel_left this
    exact Array.toList_inj.mp this
  cases a; cases b; exact congrArg Str.mk h3
/-- the names of classes among the built-in ones are those of cs -/
def bsCs (bs cs : List Str) : Bool := bs.all fun b => !(b.cps[0]? == some 33) || cs.any fun c => clsNm c == b
theorem bsCs_ok {bs cs : List Str} (h : bsCs bs cs = true) {c : Str} (hc : clsNm c ∈ bs) : c ∈ cs := by
  have h1 := List.all_eq_true.mp h _ hc
  have h2 : ((clsNm c).cps[0]? == some 33) = true := by
    show ((("!" : Str).cps ++ c.cps)[0]? == some 33) = true
    rw [Array.getElem?_append_left (by decide)]
    decide
  rw [h2] at h1
  simp only [Bool.not_true, Bool.false_or, List.any_eq_true, beq_iff_eq] at h1
  obtain ⟨c', hm, e⟩ := h1
  rw [← clsNm_inj e]; exact hm
/-- what the program of a law needs, as its top has left it -/
structure Ready (P : Program) (K : PySem.W.Frag) (mg : Str → Option Value) (fs bs cs : List Str) (Q : Pg) : Prop where
  cl : ClsL P K cs
  bi : BsOk mg bs
  gl : GlOk K mg Q.gl
  fn : DefsOk K mg fs bs Q.fn
end
theorem mo_of {P : Program} {w : World} {K : PySem.W.Frag} {mg : Str → Option Value} {base h : Heap} {fs bs cs : List Str} {Q : Pg} {M : Nat} (X : K.In h) (Gn : h.Ns mainGlobals mg) (R : Ready P K mg fs bs cs Q) (hcs : bsCs bs cs = true) (hx : Q.xt = []) (hf : fs.all fun f => (Q.fn.lookup f).isSome) :
    ∀ n, Mo K (CAof K) P w mg base fs bs (fun x => Q.gl.lookup x) (Q.call M n) (n + 2) :=
  pg_sound (fun c hc => (R.cl.get c (bsCs_ok hcs hc)).ok X Gn) R.bi.get (R.gl.get) R.fn.get (fun x e h => by rw [hx] at h; cases h) fun f hm => by
    have := List.all_eq_true.mp hf f hm
    cases q : Q.fn.lookup f with
    | none => rw [q] at this; cases this
    | some e => exact .inl ⟨e, rfl⟩
/-- what is promised of the law's def -/
def spLaw (K : PySem.W.Frag) : Sp := fun vs H Q E => ∃ (a : Addr) (ns : List Int), vs = [.ref a] ∧ Only H ∧ SqL K H a (ns.map V.int) ∧ ns.length ≤ 63 ∧ ∀ H', Q (.bl true) H'
theorem cx_none {P : Program} {w : World} (H : Hp) (s : Shared) (e : Value) (s' : Shared) : L2.CX P w [] H s (fun _ _ _ => False) e s' → False := by
  rintro ⟨_, _, _, _, _, _, _, _, _, _, _, _, h⟩
  exact h
theorem law_walk {l : PySem.W.OpenLaw} {q : Program} {loose : List Str} {XP : (Str → Option Value) → Heap → Prop} {YP : World → Heap → Prop} {d : DefRec} {K : Params → PySem.W.Frag} {fs bs cs N : List Str} {Q : Pg} {n M : Nat} {st : Stmt} {e : Fn}
    (hn : l.most = some 63) (hdf : d.params.defaults = []) (hd : d.name = "law") (hr : Room (n + 3) callerA) (hY : ∀ (w : World) (h : Heap), YP w h → (K w.params).In h)
    (hcs : bsCs bs cs = true) (hx : Q.xt = []) (hf : fs.all fun f => (Q.fn.lookup f).isSome) (T : DTxt fs bs "law" st N ["script"] e)
    (hQ : ∀ ns : List Int, ns.length ≤ 63 → ∃ o, runFn e (Q.call M n) (fun x => Q.gl.lookup x) M [.loc ns] [] = .ok (.bl true) o)
    (F : ∀ (w : World) (mg : Str → Option Value) (h : Heap), (K w.params).In h → h.Ns mainGlobals mg → Ready l.prog (K w.params) mg fs bs cs Q ∧ Known (K w.params) "law" st) :
    PySem.W.WalkO q loose XP YP l.row.toRowW d [] (fun f vs => PySem.call f vs) := by
  refine L2.walk_of (n := 63) (k := n + 3) (x := "script") (CX := fun w => L2.CX l.prog w) (sp := fun w => spLaw (K w.params)) hn (by decide) hdf hr hY (fun w mg fa h X G hfa => ?_) (fun w H a ns hl ho hS => ⟨a, ns, rfl, ho, hS, hl, fun _ => rfl⟩) fun w => cx_none
  obtain ⟨R, f, kV, doc, pm, an, cdv, ct, a, ⟨oc, od, osl, lk⟩, c, k⟩ := F w mg h X G
  rw [hd] at hfa
  have e1 := hfa.symm.trans (PySem.W.mg_of X G a)
  cases e1
  have Fu := fun_mk (st := st) lk c k
  refine ⟨_, fun s v => .of_eq (T.b kV doc pm an cdv ct [v] rfl), fun base _ _ => ?_⟩
  have mo : Mo (K w.params) (CAof (K w.params)) l.prog w mg base fs bs (fun x => Q.gl.lookup x) (Q.call M n) (n + 2) := mo_of X G R hcs hx hf n
  refine (fn_sound (M := M) Fu T.S T.h1 T.h2 T.h3 T.h4 mo).imp fun vs H Q' E ⟨p, ns, hv, ho, hS, hl, hq⟩ => ?_
  subst hv
  obtain ⟨W, obs, ds, r1, r2, r3, g⟩ := law_sp (E := E) (CA := CAof (K w.params)) ho hS (hQ ns hl)
  refine ⟨W, obs, ds, r1, r2, r3, ?_⟩
  cases hg : runFn e (Q.call M n) (fun x => Q.gl.lookup x) M ds obs with
  | ok d o =>
    rw [hg] at g
    intro v W' H' l1 h1 rv
    have := g v W' H' l1 h1 rv
    subst this; exact hq H'
  | ex cc x o => rw [hg] at g; exact g
  | bad => rw [hg] at g; exact g
end Mp

set_option Elab.async false
set_option linter.all false
set_option maxRecDepth 100000
set_option maxHeartbeats 4000000
/-! What a run computes: rules by which simp runs a text over data, step by step. -/
namespace Mp
open PySem PySem.Spec PyProof.Rows L2

/-! ### posts -/
def R.wp {α : Type} (x : R α) (P : α → Obs → Prop) : Prop := match x with
  | .ok a o => P a o
  | _ => False
@[simp] theorem R.wp_ok {α : Type} (a : α) (o : Obs) (P : α → Obs → Prop) : (R.ok a o).wp P = P a o := (rfl)
@[simp] theorem R.wp_bad {α : Type} (P : α → Obs → Prop) : (R.bad : R α).wp P = False := (rfl)
@[simp] theorem R.wp_ex {α : Type} (c : Str) (a : D) (o : Obs) (P : α → Obs → Prop) : (R.ex c a o : R α).wp P = False := (rfl)
theorem R.wp_bind {α β : Type} {x : R α} {f : α → Obs → R β} {P : β → Obs → Prop} (h : x.wp fun a o => (f a o).wp P) : (x.bind f).wp P := by
  cases x <;> first | exact h | exact h.elim
theorem R.wp_imp {α : Type} {x : R α} {P P' : α → Obs → Prop} (h : x.wp P) (i : ∀ a o, P a o → P' a o) : x.wp P' := by
  cases x <;> first | exact i _ _ h | exact h.elim
theorem R.wp_eq {α : Type} {x : R α} {P : α → Obs → Prop} (h : x.wp P) : ∃ a o, x = .ok a o ∧ P a o := by
  cases x with
  | ok a o => exact ⟨a, o, rfl, h⟩
  | _ => exact h.elim
theorem R.wp_of {α : Type} {x : R α} {a : α} {o : Obs} {P : α → Obs → Prop} (h : x = .ok a o) (q : P a o) : x.wp P := by rw [h]; exact q
structure Pt where
  nx : Env → Obs → Prop := fun _ _ => False
  rt : D → Obs → Prop := fun _ _ => False
  bk : Env → Obs → Prop := fun _ _ => False
  ct : Env → Obs → Prop := fun _ _ => False
def RS.wp (x : RS) (P : Pt) : Prop := match x with
  | .nx e o => P.nx e o
  | .rt d o => P.rt d o
  | .bk e o => P.bk e o
  | .ct e o => P.ct e o
  | _ => False
@[simp] theorem RS.wp_nx (e : Env) (o : Obs) (P : Pt) : (RS.nx e o).wp P = P.nx e o := (rfl)
@[simp] theorem RS.wp_rt (e : D) (o : Obs) (P : Pt) : (RS.rt e o).wp P = P.rt e o := (rfl)
@[simp] theorem RS.wp_bk (e : Env) (o : Obs) (P : Pt) : (RS.bk e o).wp P = P.bk e o := (rfl)
@[simp] theorem RS.wp_ct (e : Env) (o : Obs) (P : Pt) : (RS.ct e o).wp P = P.ct e o := (rfl)
@[simp] theorem RS.wp_bad (P : Pt) : RS.bad.wp P = False := (rfl)
theorem RS.wp_seq {x : RS} {f : Env → Obs → RS} {P : Pt} (h : x.wp { P with nx := fun e o => (f e o).wp P }) : (x.seq f).wp P := by
  cases x <;> exact h
theorem RS.wp_imp {x : RS} {P P' : Pt} (h : x.wp P) (a : ∀ e o, P.nx e o → P'.nx e o) (b : ∀ e o, P.rt e o → P'.rt e o) (c : ∀ e o, P.bk e o → P'.bk e o) (d : ∀ e o, P.ct e o → P'.ct e o) : x.wp P' := by
  cases x with
  | nx e o => exact a e o h
  | rt e o => exact b e o h
  | bk e o => exact c e o h
  | ct e o => exact d e o h
  | _ => exact h.elim
theorem R.wp_st {α : Type} {x : R α} {env : Env} {f : α → Obs → RS} {P : Pt} (h : x.wp fun a o => (f a o).wp P) : (x.st env f).wp P := by
  cases x <;> first | exact h | exact h.elim
/-! ### slots -/
@[simp] theorem getD_zero (d : D) (l : Env) : getD' (.v d :: l) 0 = some d := (rfl)
@[simp] theorem getD_succ (s : Sl) (l : Env) (i : Nat) : getD' (s :: l) (i + 1) = getD' l i := (rfl)
section
variable (Φ : Str → List D → Obs → R D) (G : Str → Option D) (env : Env) (o : Obs)
def notD : D → Option D | .bl b => some (.bl (!b)) | _ => none
def negD : D → Option D | .int i => some (.int (-i)) | _ => none
def seqD : D → Option (List D) | .lst ds => some ds | .tup ds => some ds | _ => none
def intD : D → Option Int | .int i => some i | _ => none
@[simp] theorem notD_bl (b : Bool) : notD (.bl b) = some (.bl (!b)) := (rfl)
@[simp] theorem negD_int (b : Int) : negD (.int b) = some (.int (-b)) := (rfl)
@[simp] theorem seqD_lst (b : List D) : seqD (.lst b) = some b := (rfl)
@[simp] theorem seqD_tup (b : List D) : seqD (.tup b) = some b := (rfl)
@[simp] theorem intD_int (b : Int) : intD (.int b) = some b := (rfl)
def ifK {α : Type} (b : Bool) (x y : R α) : R α := if b then x else y
@[simp] theorem ifK_t {α : Type} (x y : R α) : ifK true x y = x := (rfl)
@[simp] theorem ifK_f {α : Type} (x y : R α) : ifK false x y = y := (rfl)
def ifS (b : Bool) (x y : RS) : RS := if b then x else y
@[simp] theorem ifS_t (x y : RS) : ifS true x y = x := (rfl)
@[simp] theorem ifS_f (x y : RS) : ifS false x y = y := (rfl)
def ifE (b : Bool) (x y : E) (env : Env) (o : Obs) : R D := if b then denE Φ G x env o else denE Φ G y env o
@[simp] theorem ifE_t (x y : E) : ifE Φ G true x y env o = denE Φ G x env o := (rfl)
@[simp] theorem ifE_f (x y : E) : ifE Φ G false x y env o = denE Φ G y env o := (rfl)
def ifT (b : Bool) (x y : E) (env : Env) (o : Obs) : R Bool := if b then denT Φ G x env o else denT Φ G y env o
@[simp] theorem ifT_t (x y : E) : ifT Φ G true x y env o = denT Φ G x env o := (rfl)
@[simp] theorem ifT_f (x y : E) : ifT Φ G false x y env o = denT Φ G y env o := (rfl)
/-- and then, or else -/
def kCon (es : Es) (env : Env) (x : D) (o : Obs) : R D := match x with | .bl true => denCon Φ G es env o | .bl false => .ok (.bl false) o | _ => .bad
def kDis (es : Es) (env : Env) (x : D) (o : Obs) : R D := match x with | .bl false => denDis Φ G es env o | .bl true => .ok (.bl true) o | _ => .bad
def kTC (es : Es) (env : Env) (x : Bool) (o : Obs) : R Bool := if x then denTC Φ G es env o else .ok false o
def kTD (es : Es) (env : Env) (x : Bool) (o : Obs) : R Bool := if x then .ok true o else denTD Φ G es env o
@[simp] theorem kCon_t (es : Es) : kCon Φ G es env (.bl true) o = denCon Φ G es env o := (rfl)
@[simp] theorem kCon_f (es : Es) : kCon Φ G es env (.bl false) o = .ok (.bl false) o := (rfl)
@[simp] theorem kDis_f (es : Es) : kDis Φ G es env (.bl false) o = denDis Φ G es env o := (rfl)
@[simp] theorem kDis_t (es : Es) : kDis Φ G es env (.bl true) o = .ok (.bl true) o := (rfl)
@[simp] theorem kTC_t (es : Es) : kTC Φ G es env true o = denTC Φ G es env o := (rfl)
@[simp] theorem kTC_f (es : Es) : kTC Φ G es env false o = .ok false o := (rfl)
@[simp] theorem kTD_f (es : Es) : kTD Φ G es env false o = denTD Φ G es env o := (rfl)
@[simp] theorem kTD_t (es : Es) : kTD Φ G es env true o = .ok true o := (rfl)
def kTru  (x : D) (o : Obs) : R Bool := R.opt o (truD x)
@[simp] theorem kTru_ap  (x : D) : kTru  x o = R.opt o (truD x) := (rfl)
def kBl  (k : Bool) (o : Obs) : R D := .ok (.bl k) o
@[simp] theorem kBl_ap  (k : Bool) : kBl  k o = .ok (.bl k) o := (rfl)
@[simp] theorem dE_lit (d : D) : denE Φ G (.lit d) env o = .ok d o := (rfl)
@[simp] theorem dE_var (i : Nat) : denE Φ G (.var i) env o = R.opt o (getD' env i) := (rfl)
@[simp] theorem dE_glob (x : Str) : denE Φ G (.glob x) env o = R.opt o (G x) := (rfl)
def kBin2 (op : Operator) (x : D) (y : D) (o : Obs) : R D := R.opt o (binD op x y)
@[simp] theorem kBin2_ap (op : Operator) (x : D) (y : D) : kBin2 op x y o = R.opt o (binD op x y) := (rfl)
def kBin1 (op : Operator) (b : E) (env : Env) (x : D) (o : Obs) : R D := (denE Φ G b env o).bind (kBin2 op x)
@[simp] theorem kBin1_ap (op : Operator) (b : E) (env : Env) (x : D) : kBin1 Φ G op b env x o = (denE Φ G b env o).bind (kBin2 op x) := (rfl)
@[simp] theorem dE_bin (op : Operator) (a b : E) : denE Φ G (.bin op a b) env o = (denE Φ G a env o).bind (kBin1 Φ G op b env) := (rfl)
def kCmp2 (op : CmpOp) (x : D) (y : D) (o : Obs) : R D := R.opt o ((cmpD op x y).map .bl)
@[simp] theorem kCmp2_ap (op : CmpOp) (x : D) (y : D) : kCmp2 op x y o = R.opt o ((cmpD op x y).map .bl) := (rfl)
def kCmp1 (op : CmpOp) (b : E) (env : Env) (x : D) (o : Obs) : R D := (denE Φ G b env o).bind (kCmp2 op x)
@[simp] theorem kCmp1_ap (op : CmpOp) (b : E) (env : Env) (x : D) : kCmp1 Φ G op b env x o = (denE Φ G b env o).bind (kCmp2 op x) := (rfl)
@[simp] theorem dE_cmp (op : CmpOp) (a b : E) : denE Φ G (.cmp op a b) env o = (denE Φ G a env o).bind (kCmp1 Φ G op b env) := (rfl)
def kTmp2 (op : CmpOp) (x : D) (y : D) (o : Obs) : R Bool := R.opt o (cmpD op x y)
@[simp] theorem kTmp2_ap (op : CmpOp) (x : D) (y : D) : kTmp2 op x y o = R.opt o (cmpD op x y) := (rfl)
def kTmp1 (op : CmpOp) (b : E) (env : Env) (x : D) (o : Obs) : R Bool := (denE Φ G b env o).bind (kTmp2 op x)
@[simp] theorem kTmp1_ap (op : CmpOp) (b : E) (env : Env) (x : D) : kTmp1 Φ G op b env x o = (denE Φ G b env o).bind (kTmp2 op x) := (rfl)
@[simp] theorem dT_cmp (op : CmpOp) (a b : E) : denT Φ G (.cmp op a b) env o = (denE Φ G a env o).bind (kTmp1 Φ G op b env) := by
  show (R.bind _ _).bind _ = _
  rw [R.bind_assoc]
  congr 1; funext x o; rw [R.bind_assoc]
  show _ = (denE Φ G b env o).bind _
  congr 1; funext y o
  show (R.opt o ((cmpD op x y).map D.bl)).bind _ = R.opt o (cmpD op x y)
  cases cmpD op x y <;> rfl
def kChn3 (o2 : CmpOp) (c : E) (env : Env) (y : D) (k : Bool) (o : Obs) : R D := (if k then (denE Φ G c env o).bind (kCmp2 o2 y) else .ok (.bl false) o)
@[simp] theorem kChn3_ap (o2 : CmpOp) (c : E) (env : Env) (y : D) (k : Bool) : kChn3 Φ G o2 c env y k o = (if k then (denE Φ G c env o).bind (kCmp2 o2 y) else .ok (.bl false) o) := (rfl)
def kChn2 (o1 : CmpOp) (o2 : CmpOp) (c : E) (env : Env) (x : D) (y : D) (o : Obs) : R D := (R.opt o (cmpD o1 x y)).bind (kChn3 Φ G o2 c env y)
@[simp] theorem kChn2_ap (o1 : CmpOp) (o2 : CmpOp) (c : E) (env : Env) (x : D) (y : D) : kChn2 Φ G o1 o2 c env x y o = (R.opt o (cmpD o1 x y)).bind (kChn3 Φ G o2 c env y) := (rfl)
def kChn1 (o1 : CmpOp) (o2 : CmpOp) (b : E) (c : E) (env : Env) (x : D) (o : Obs) : R D := (denE Φ G b env o).bind (kChn2 Φ G o1 o2 c env x)
@[simp] theorem kChn1_ap (o1 : CmpOp) (o2 : CmpOp) (b : E) (c : E) (env : Env) (x : D) : kChn1 Φ G o1 o2 b c env x o = (denE Φ G b env o).bind (kChn2 Φ G o1 o2 c env x) := (rfl)
@[simp] theorem dE_chn (o1 o2 : CmpOp) (a b c : E) : denE Φ G (.chn o1 o2 a b c) env o = (denE Φ G a env o).bind (kChn1 Φ G o1 o2 b c env) := by
  show (denE Φ G a env o).bind _ = _
  congr 1; funext x o; show (denE Φ G b env o).bind _ = (denE Φ G b env o).bind _
  congr 1; funext y o
  show _ = (R.opt o (cmpD o1 x y)).bind _
  cases cmpD o1 x y with
  | none => rfl
  | some k => cases k <;> rfl
def kNot  (x : D) (o : Obs) : R D := R.opt o (notD x)
@[simp] theorem kNot_ap  (x : D) : kNot  x o = R.opt o (notD x) := (rfl)
@[simp] theorem dE_not (a : E) : denE Φ G (.not a) env o = (denE Φ G a env o).bind kNot := by
  show (denE Φ G a env o).bind _ = _
  congr 1; funext x o; cases x <;> rfl
def kNeg  (x : D) (o : Obs) : R D := R.opt o (negD x)
@[simp] theorem kNeg_ap  (x : D) : kNeg  x o = R.opt o (negD x) := (rfl)
@[simp] theorem dE_neg (a : E) : denE Φ G (.neg a) env o = (denE Φ G a env o).bind kNeg := by
  show (denE Φ G a env o).bind _ = _
  congr 1; funext x o; cases x <;> rfl
@[simp] theorem dE_con (es : Es) : denE Φ G (.con es) env o = denCon Φ G es env o := (rfl)
@[simp] theorem dE_dis (es : Es) : denE Φ G (.dis es) env o = denDis Φ G es env o := (rfl)
def kIfe (a : E) (b : E) (env : Env) (k : Bool) (o : Obs) : R D := ifE Φ G k a b env o
@[simp] theorem kIfe_ap (a : E) (b : E) (env : Env) (k : Bool) : kIfe Φ G a b env k o = ifE Φ G k a b env o := (rfl)
@[simp] theorem dE_ife (c a b : E) : denE Φ G (.ife c a b) env o = (denT Φ G c env o).bind (kIfe Φ G a b env) := (rfl)
def kTife (a : E) (b : E) (env : Env) (k : Bool) (o : Obs) : R Bool := ifT Φ G k a b env o
@[simp] theorem kTife_ap (a : E) (b : E) (env : Env) (k : Bool) : kTife Φ G a b env k o = ifT Φ G k a b env o := (rfl)
@[simp] theorem dT_ife (c a b : E) : denT Φ G (.ife c a b) env o = (denT Φ G c env o).bind (kTife Φ G a b env) := (rfl)
def kTup  (ds : List D) (o : Obs) : R D := (if ds.length ≤ sizeLine then .ok (.tup ds) o else .bad)
@[simp] theorem kTup_ap  (ds : List D) : kTup  ds o = (if ds.length ≤ sizeLine then .ok (.tup ds) o else .bad) := (rfl)
@[simp] theorem dE_tup (es : Es) : denE Φ G (.tup es) env o = (denEs Φ G es env o).bind kTup := (rfl)
def kLst  (ds : List D) (o : Obs) : R D := (if ds.length ≤ sizeLine then .ok (.lst ds) o else .bad)
@[simp] theorem kLst_ap  (ds : List D) : kLst  ds o = (if ds.length ≤ sizeLine then .ok (.lst ds) o else .bad) := (rfl)
@[simp] theorem dE_lst (es : Es) : denE Φ G (.lst es) env o = (denEs Φ G es env o).bind kLst := (rfl)
def kIx2 (x : D) (y : D) (o : Obs) : R D := R.opt o (ixD x y)
@[simp] theorem kIx2_ap (x : D) (y : D) : kIx2 x y o = R.opt o (ixD x y) := (rfl)
def kIx1 (b : E) (env : Env) (x : D) (o : Obs) : R D := (denE Φ G b env o).bind (kIx2 x)
@[simp] theorem kIx1_ap (b : E) (env : Env) (x : D) : kIx1 Φ G b env x o = (denE Φ G b env o).bind (kIx2 x) := (rfl)
@[simp] theorem dE_ix (a b : E) : denE Φ G (.ix a b) env o = (denE Φ G a env o).bind (kIx1 Φ G b env) := (rfl)
def kSl3 (x : D) (l : Option Int) (h : Option Int) (o : Obs) : R D := R.opt o (slD x l h)
@[simp] theorem kSl3_ap (x : D) (l : Option Int) (h : Option Int) : kSl3 x l h o = R.opt o (slD x l h) := (rfl)
def kSl2 (hi : Eo) (env : Env) (x : D) (l : Option Int) (o : Obs) : R D := (denO Φ G hi env o).bind (kSl3 x l)
@[simp] theorem kSl2_ap (hi : Eo) (env : Env) (x : D) (l : Option Int) : kSl2 Φ G hi env x l o = (denO Φ G hi env o).bind (kSl3 x l) := (rfl)
def kSl1 (lo : Eo) (hi : Eo) (env : Env) (x : D) (o : Obs) : R D := (denO Φ G lo env o).bind (kSl2 Φ G hi env x)
@[simp] theorem kSl1_ap (lo : Eo) (hi : Eo) (env : Env) (x : D) : kSl1 Φ G lo hi env x o = (denO Φ G lo env o).bind (kSl2 Φ G hi env x) := (rfl)
@[simp] theorem dE_sl (a : E) (lo hi : Eo) : denE Φ G (.sl a lo hi) env o = (denE Φ G a env o).bind (kSl1 Φ G lo hi env) := (rfl)
def kRev  (x : D) (o : Obs) : R D := R.opt o (revD x)
@[simp] theorem kRev_ap  (x : D) : kRev  x o = R.opt o (revD x) := (rfl)
@[simp] theorem dE_rev (a : E) : denE Φ G (.rev a) env o = (denE Φ G a env o).bind kRev := (rfl)
@[simp] theorem dE_call (f : Str) (es : Es) : denE Φ G (.call f es) env o = (denEs Φ G es env o).bind (Φ f) := (rfl)
def kBi (f : String) (ds : List D) (o : Obs) : R D := R.opt o (biD f ds)
@[simp] theorem kBi_ap (f : String) (ds : List D) : kBi f ds o = R.opt o (biD f ds) := (rfl)
@[simp] theorem dE_bi (f : String) (es : Es) : denE Φ G (.bi f es) env o = (denEs Φ G es env o).bind (kBi f) := (rfl)
def kIsi (t : String) (x : D) (o : Obs) : R D := R.opt o ((isiD t x).map .bl)
@[simp] theorem kIsi_ap (t : String) (x : D) : kIsi t x o = R.opt o ((isiD t x).map .bl) := (rfl)
@[simp] theorem dE_isi (a : E) (t : String) : denE Φ G (.isi a t) env o = (denE Φ G a env o).bind (kIsi t) := (rfl)
def kTisi (t : String) (x : D) (o : Obs) : R Bool := R.opt o (isiD t x)
@[simp] theorem kTisi_ap (t : String) (x : D) : kTisi t x o = R.opt o (isiD t x) := (rfl)
@[simp] theorem dT_isi (a : E) (t : String) : denT Φ G (.isi a t) env o = (denE Φ G a env o).bind (kTisi t) := by
  show (R.bind _ _).bind _ = _
  rw [R.bind_assoc]
  congr 1; funext x o
  show (R.opt o ((isiD t x).map D.bl)).bind _ = R.opt o (isiD t x)
  cases isiD t x <;> rfl
def kLc (x : E) (tg : Tg) (c : Eo) (own : List (Str × Nat)) (env : Env) (ds : List D) (o : Obs) : R (List D) := lcD (own.map (·.2)) tg (denC Φ G c) (denE Φ G x) env ds [] o
@[simp] theorem kLc_ap (x : E) (tg : Tg) (c : Eo) (own : List (Str × Nat)) (env : Env) (ds : List D) : kLc Φ G x tg c own env ds o = lcD (own.map (·.2)) tg (denC Φ G c) (denE Φ G x) env ds [] o := (rfl)
@[simp] theorem dE_lc (x : E) (tg : Tg) (it : It) (c : Eo) (own : List (Str × Nat)) : denE Φ G (.lc x tg it c own) env o = ((denI Φ G it env o).bind (kLc Φ G x tg c own env)).map .lst := (rfl)
@[simp] theorem dF_lc (x : E) (tg : Tg) (it : It) (c : Eo) (own : List (Str × Nat)) : denF Φ G (.lc x tg it c own) env o = (denI Φ G it env o).bind (kLc Φ G x tg c own env) := (rfl)
def kLc2 (x : E) (tg : Tg) (c : Eo) (tg1 : Tg) (it1 : It) (c1 : Eo) (own : List (Str × Nat)) (vs1 : List Nat) (env : Env) (ds : List D) (o : Obs) : R (List D) := lc2D (own.map (·.2)) vs1 tg (denC Φ G c) (denI Φ G it1) tg1 (denC Φ G c1) (denE Φ G x) env ds [] o
@[simp] theorem kLc2_ap (x : E) (tg : Tg) (c : Eo) (tg1 : Tg) (it1 : It) (c1 : Eo) (own : List (Str × Nat)) (vs1 : List Nat) (env : Env) (ds : List D) : kLc2 Φ G x tg c tg1 it1 c1 own vs1 env ds o = lc2D (own.map (·.2)) vs1 tg (denC Φ G c) (denI Φ G it1) tg1 (denC Φ G c1) (denE Φ G x) env ds [] o := (rfl)
@[simp] theorem dE_lc2 (x : E) (tg : Tg) (it : It) (c : Eo) (tg1 : Tg) (it1 : It) (c1 : Eo) (own : List (Str × Nat)) (vs1 : List Nat) : denE Φ G (.lc2 x tg it c tg1 it1 c1 own vs1) env o = ((denI Φ G it env o).bind (kLc2 Φ G x tg c tg1 it1 c1 own vs1 env)).map .lst := (rfl)
def kSset  (x : D) (o : Obs) : R D := R.opt o (ssetD x)
@[simp] theorem kSset_ap  (x : D) : kSset  x o = R.opt o (ssetD x) := (rfl)
@[simp] theorem dE_sset (a : E) : denE Φ G (.sset a) env o = (denE Φ G a env o).bind kSset := (rfl)
def kOixd (i : Int) (ds : List D) (o : Obs) : R D := R.opt o (atI ds i)
@[simp] theorem kOixd_ap (i : Int) (ds : List D) : kOixd i ds o = R.opt o (atI ds i) := (rfl)
def kOixi (x : D) (i : Int) (o : Obs) : R D := (R.opt o (lsO o x)).bind (kOixd i)
@[simp] theorem kOixi_ap (x : D) (i : Int) : kOixi x i o = (R.opt o (lsO o x)).bind (kOixd i) := (rfl)
def kOix2 (x : D) (y : D) (o : Obs) : R D := (R.opt o (intD y)).bind (kOixi x)
@[simp] theorem kOix2_ap (x : D) (y : D) : kOix2 x y o = (R.opt o (intD y)).bind (kOixi x) := (rfl)
def kOix1 (b : E) (env : Env) (x : D) (o : Obs) : R D := (denE Φ G b env o).bind (kOix2 x)
@[simp] theorem kOix1_ap (b : E) (env : Env) (x : D) : kOix1 Φ G b env x o = (denE Φ G b env o).bind (kOix2 x) := (rfl)
@[simp] theorem dE_oix (a b : E) : denE Φ G (.oix a b) env o = (denE Φ G a env o).bind (kOix1 Φ G b env) := by
  show (denE Φ G a env o).bind _ = _
  congr 1; funext x o; show (denE Φ G b env o).bind _ = (denE Φ G b env o).bind _
  congr 1; funext y o
  cases y <;> first | rfl | skip
  rename_i i
  show R.opt o ((lsO o x).bind fun ds => atI ds i) = (R.opt o (lsO o x)).bind (kOixd i)
  cases lsO o x <;> rfl
def kOlen  (x : D) (o : Obs) : R D := R.opt o ((lsO o x).map fun ds => .int ds.length)
@[simp] theorem kOlen_ap  (x : D) : kOlen  x o = R.opt o ((lsO o x).map fun ds => .int ds.length) := (rfl)
@[simp] theorem dE_olen (a : E) : denE Φ G (.olen a) env o = (denE Φ G a env o).bind kOlen := (rfl)
def kOnew  (ds : List D) (o : Obs) : R D := (if ds.length ≤ sizeLine then .ok (.obj o.length) (o ++ [.ls ds]) else .bad)
@[simp] theorem kOnew_ap  (ds : List D) : kOnew  ds o = (if ds.length ≤ sizeLine then .ok (.obj o.length) (o ++ [.ls ds]) else .bad) := (rfl)
@[simp] theorem dE_onew (es : Es) : denE Φ G (.onew es) env o = (denEs Φ G es env o).bind kOnew := (rfl)
def kOls  (ds : List D) (o : Obs) : R D := .ok (.obj o.length) (o ++ [.ls ds])
@[simp] theorem kOls_ap  (ds : List D) : kOls  ds o = .ok (.obj o.length) (o ++ [.ls ds]) := (rfl)
def kOlist  (x : D) (o : Obs) : R D := (R.opt o (seqD x)).bind kOls
@[simp] theorem kOlist_ap  (x : D) : kOlist  x o = (R.opt o (seqD x)).bind kOls := (rfl)
@[simp] theorem dE_olist (a : E) : denE Φ G (.olist a) env o = (denE Φ G a env o).bind kOlist := by
  show (denE Φ G a env o).bind _ = _
  congr 1; funext x o; cases x <;> rfl
def kOm4  (y : D × Obs) (o : Obs) : R D := .ok y.1 y.2
@[simp] theorem kOm4_ap  (y : D × Obs) : kOm4  y o = .ok y.1 y.2 := (rfl)
def kOm3 (m : String) (x : D) (d : D) (o : Obs) : R D := (R.opt o (omD m o x d)).bind kOm4
@[simp] theorem kOm3_ap (m : String) (x : D) (d : D) : kOm3 m x d o = (R.opt o (omD m o x d)).bind kOm4 := (rfl)
def kOm2 (m : String) (e : E) (env : Env) (x : D) (z : List D) (o : Obs) : R D := (denE Φ G e env o).bind (kOm3 m x)
@[simp] theorem kOm2_ap (m : String) (e : E) (env : Env) (x : D) (z : List D) : kOm2 Φ G m e env x z o = (denE Φ G e env o).bind (kOm3 m x) := (rfl)
def kOm1 (m : String) (e : E) (env : Env) (x : D) (o : Obs) : R D := (R.opt o (lsO o x)).bind (kOm2 Φ G m e env x)
@[simp] theorem kOm1_ap (m : String) (e : E) (env : Env) (x : D) : kOm1 Φ G m e env x o = (R.opt o (lsO o x)).bind (kOm2 Φ G m e env x) := (rfl)
@[simp] theorem dE_om (m : String) (a e : E) : denE Φ G (.om m a e) env o = (denE Φ G a env o).bind (kOm1 Φ G m e env) := by
  show (denE Φ G a env o).bind _ = _
  congr 1; funext x o
  show _ = (R.opt o (lsO o x)).bind _
  cases lsO o x with
  | none => rfl
  | some ds =>
    show (denE Φ G e env o).bind _ = (denE Φ G e env o).bind _
    congr 1; funext d o
    show _ = (R.opt o (omD m o x d)).bind _
    cases omD m o x d <;> rfl
def kBor  (d : D) (o : Obs) : R D := ifK (noL d && o.all noLO) (.ok d o) .bad
@[simp] theorem kBor_ap  (d : D) : kBor  d o = ifK (noL d && o.all noLO) (.ok d o) .bad := (rfl)
def kTbor  (d : Bool) (o : Obs) : R Bool := ifK (o.all noLO) (.ok d o) .bad
@[simp] theorem kTbor_ap  (d : Bool) : kTbor  d o = ifK (o.all noLO) (.ok d o) .bad := (rfl)
def lent (i : Nat) (env : Env) : Option Env := match env[i]? with | some (.ol ds) => some (env.set i (.v (.lst ds))) | _ => none
def kBor0 (e : E) (env : Env) (o : Obs) : R D := ((denE Φ G e env o).noex).bind kBor
@[simp] theorem kBor0_ap (e : E) (env : Env) : kBor0 Φ G e env o = ((denE Φ G e env o).noex).bind kBor := (rfl)
def kTbor0 (e : E) (env : Env) (o : Obs) : R Bool := ((denT Φ G e env o).noex).bind kTbor
@[simp] theorem kTbor0_ap (e : E) (env : Env) : kTbor0 Φ G e env o = ((denT Φ G e env o).noex).bind kTbor := (rfl)
@[simp] theorem dE_bor (i : Nat) (e : E) : denE Φ G (.bor i e) env o = (R.opt o (lent i env)).bind (kBor0 Φ G e) := by
  have : denE Φ G (.bor i e) env o = match env[i]? with
    | some (.ol ds) => ((denE Φ G e (env.set i (.v (.lst ds))) o).noex).bind fun d o => if noL d && o.all noLO then .ok d o else .bad
    | _ => .bad := rfl
  rw [this]; unfold lent
  cases env[i]? with
  | none => rfl
  | some s => cases s <;> rfl
@[simp] theorem dT_bor (i : Nat) (e : E) : denT Φ G (.bor i e) env o = (R.opt o (lent i env)).bind (kTbor0 Φ G e) := by
  have : denT Φ G (.bor i e) env o = match env[i]? with
    | some (.ol ds) => ((denT Φ G e (env.set i (.v (.lst ds))) o).noex).bind fun d o => if true && o.all noLO then .ok d o else .bad
    | _ => .bad := rfl
  rw [this]; unfold lent
  cases env[i]? with
  | none => rfl
  | some s => cases s <;> rfl
@[simp] theorem dEs_nil  : denEs Φ G .nil env o = .ok [] o := (rfl)
def kCons2 (x : D) (xs : List D) (o : Obs) : R (List D) := .ok (x :: xs) o
@[simp] theorem kCons2_ap (x : D) (xs : List D) : kCons2 x xs o = .ok (x :: xs) o := (rfl)
def kCons1 (r : Es) (env : Env) (x : D) (o : Obs) : R (List D) := (denEs Φ G r env o).bind (kCons2 x)
@[simp] theorem kCons1_ap (r : Es) (env : Env) (x : D) : kCons1 Φ G r env x o = (denEs Φ G r env o).bind (kCons2 x) := (rfl)
@[simp] theorem dEs_cons (e : E) (r : Es) : denEs Φ G (.cons e r) env o = (denE Φ G e env o).bind (kCons1 Φ G r env) := (rfl)
@[simp] theorem dCon_one (e : E) : denCon Φ G (.cons e .nil) env o = denE Φ G e env o := (rfl)
@[simp] theorem dCon_cons (e e2 : E) (r : Es) : denCon Φ G (.cons e (.cons e2 r)) env o = (denE Φ G e env o).bind (kCon Φ G (.cons e2 r) env) := (rfl)
@[simp] theorem dDis_one (e : E) : denDis Φ G (.cons e .nil) env o = denE Φ G e env o := (rfl)
@[simp] theorem dDis_cons (e e2 : E) (r : Es) : denDis Φ G (.cons e (.cons e2 r)) env o = (denE Φ G e env o).bind (kDis Φ G (.cons e2 r) env) := (rfl)
@[simp] theorem dTC_one (e : E) : denTC Φ G (.cons e .nil) env o = denT Φ G e env o := (rfl)
@[simp] theorem dTC_cons (e e2 : E) (r : Es) : denTC Φ G (.cons e (.cons e2 r)) env o = (denT Φ G e env o).bind (kTC Φ G (.cons e2 r) env) := (rfl)
@[simp] theorem dTD_one (e : E) : denTD Φ G (.cons e .nil) env o = denT Φ G e env o := (rfl)
@[simp] theorem dTD_cons (e e2 : E) (r : Es) : denTD Φ G (.cons e (.cons e2 r)) env o = (denT Φ G e env o).bind (kTD Φ G (.cons e2 r) env) := (rfl)
@[simp] theorem dT_con (es : Es) : denT Φ G (.con es) env o = denTC Φ G es env o := (rfl)
@[simp] theorem dT_dis (es : Es) : denT Φ G (.dis es) env o = denTD Φ G es env o := (rfl)
@[simp] theorem dT_not (a : E) : denT Φ G (.not a) env o = (denT Φ G a env o).map not := (rfl)
@[simp] theorem dT_lit (d : D) : denT Φ G (.lit d) env o = (denE Φ G (.lit d) env o).bind kTru := (rfl)
@[simp] theorem dT_var (i : Nat) : denT Φ G (.var i) env o = (denE Φ G (.var i) env o).bind kTru := (rfl)
@[simp] theorem dT_glob (x : Str) : denT Φ G (.glob x) env o = (denE Φ G (.glob x) env o).bind kTru := (rfl)
@[simp] theorem dT_bin (op : Operator) (a b : E) : denT Φ G (.bin op a b) env o = (denE Φ G (.bin op a b) env o).bind kTru := (rfl)
@[simp] theorem dT_chn (o1 o2 : CmpOp) (a b c : E) : denT Φ G (.chn o1 o2 a b c) env o = (denE Φ G (.chn o1 o2 a b c) env o).bind kTru := (rfl)
@[simp] theorem dT_ix (a b : E) : denT Φ G (.ix a b) env o = (denE Φ G (.ix a b) env o).bind kTru := (rfl)
@[simp] theorem dT_call (f : Str) (es : Es) : denT Φ G (.call f es) env o = (denE Φ G (.call f es) env o).bind kTru := (rfl)
@[simp] theorem dT_bi (f : String) (es : Es) : denT Φ G (.bi f es) env o = (denE Φ G (.bi f es) env o).bind kTru := (rfl)
@[simp] theorem dT_oix (a b : E) : denT Φ G (.oix a b) env o = (denE Φ G (.oix a b) env o).bind kTru := (rfl)
@[simp] theorem dT_olen (a : E) : denT Φ G (.olen a) env o = (denE Φ G (.olen a) env o).bind kTru := (rfl)
@[simp] theorem dT_sl (a : E) (lo hi : Eo) : denT Φ G (.sl a lo hi) env o = (denE Φ G (.sl a lo hi) env o).bind kTru := (rfl)
@[simp] theorem dO_none  : denO Φ G .none env o = .ok none o := (rfl)
def kO  (x : D) (o : Obs) : R (Option Int) := R.opt o ((intD x).map some)
@[simp] theorem kO_ap  (x : D) : kO  x o = R.opt o ((intD x).map some) := (rfl)
@[simp] theorem dO_some (e : E) : denO Φ G (.some e) env o = (denE Φ G e env o).bind kO := by
  show (denE Φ G e env o).bind _ = _
  congr 1; funext x o; cases x <;> rfl
@[simp] theorem dC_none  : denC Φ G .none env o = .ok true o := (rfl)
@[simp] theorem dC_some (e : E) : denC Φ G (.some e) env o = denT Φ G e env o := (rfl)
def kSeq  (x : D) (o : Obs) : R (List D) := R.opt o (seqD x)
@[simp] theorem kSeq_ap  (x : D) : kSeq  x o = R.opt o (seqD x) := (rfl)
def kEnum (x : D) (o : Obs) : R (List D) := R.opt o ((seqD x).map enumD)
@[simp] theorem kEnum_ap (x : D) (o : Obs) : kEnum x o = R.opt o ((seqD x).map enumD) := (rfl)
@[simp] theorem dI_sq (e : E) : denI Φ G (.sq e) env o = (denE Φ G e env o).bind kSeq := by
  show (denE Φ G e env o).bind _ = _
  congr 1; funext x o; cases x <;> rfl
def kR1i (n : Int) (o : Obs) : R (List D) := cond (smallI n) (.ok (rangeD 0 n.toNat 1) o) .bad
theorem kR1i_ap (n : Int) : kR1i n o = cond (smallI n) (.ok (rangeD 0 n.toNat 1) o) .bad := (rfl)
@[simp] theorem kR1i_ok (n : Int) (h : smallI n = true) : kR1i n o = .ok (rangeD 0 n.toNat 1) o := by rw [kR1i_ap, h]; rfl
def kR1  (x : D) (o : Obs) : R (List D) := (R.opt o (intD x)).bind kR1i
@[simp] theorem kR1_ap  (x : D) : kR1  x o = (R.opt o (intD x)).bind kR1i := (rfl)
@[simp] theorem dI_en (e : E) : denI Φ G (.en e) env o = (denE Φ G e env o).bind kEnum := by
  show R.bind _ _ = R.bind _ _
  congr 1; funext x o
  cases x <;> rfl
@[simp] theorem dI_r1 (a : E) : denI Φ G (.r1 a) env o = (denE Φ G a env o).bind kR1 := by
  show (denE Φ G a env o).bind _ = _
  congr 1; funext x o; cases x <;> first | rfl | (rename_i n; show (if smallI n then _ else _) = kR1i n o; unfold kR1i; cases smallI n <;> rfl)
def kR2j (i j : Int) (o : Obs) : R (List D) := cond (smallI i && smallI j) (.ok (rangeD i (j - i).toNat 1) o) .bad
@[simp] theorem kR2j_ok (i j : Int) (h : smallI i = true) (h2 : smallI j = true) : kR2j i j o = .ok (rangeD i (j - i).toNat 1) o := by unfold kR2j; rw [h, h2]; rfl
def kR2i (y : D) (i : Int) (o : Obs) : R (List D) := (R.opt o (intD y)).bind (kR2j i)
@[simp] theorem kR2i_ap (y : D) (i : Int) : kR2i y i o = (R.opt o (intD y)).bind (kR2j i) := (rfl)
def kR2b (x : D) (y : D) (o : Obs) : R (List D) := (R.opt o (intD x)).bind (kR2i y)
@[simp] theorem kR2b_ap (x : D) (y : D) : kR2b x y o = (R.opt o (intD x)).bind (kR2i y) := (rfl)
def kR2a (b : E) (env : Env) (x : D) (o : Obs) : R (List D) := (denE Φ G b env o).bind (kR2b x)
@[simp] theorem kR2a_ap (b : E) (env : Env) (x : D) : kR2a Φ G b env x o = (denE Φ G b env o).bind (kR2b x) := (rfl)
@[simp] theorem dI_r2 (a b : E) : denI Φ G (.r2 a b) env o = (denE Φ G a env o).bind (kR2a Φ G b env) := by
  show (denE Φ G a env o).bind _ = _
  congr 1; funext x o; show (denE Φ G b env o).bind _ = (denE Φ G b env o).bind _
  congr 1; funext y o; cases x <;> first | rfl | (cases y <;> first | rfl | (rename_i i j; show (if smallI i && smallI j then _ else _) = kR2j i j o; unfold kR2j; cases (smallI i && smallI j) <;> rfl))
def rng3 (i j k : Int) : Option (List D) := cond (Builtin.Range.small i j k && decide (k ≠ 0 ∧ k.natAbs < 1073741824 ∧ 0 ≤ Builtin.Range.rangeSize i j k)) (some (rangeD i (Builtin.Range.rangeSize i j k).toNat k)) none
def kR3k (i j k : Int) (o : Obs) : R (List D) := R.opt o (rng3 i j k)
@[simp] theorem kR3k_ap (i j k : Int) : kR3k i j k o = R.opt o (rng3 i j k) := (rfl)
def kR3j (z : D) (i j : Int) (o : Obs) : R (List D) := (R.opt o (intD z)).bind (kR3k i j)
@[simp] theorem kR3j_ap (z : D) (i j : Int) : kR3j z i j o = (R.opt o (intD z)).bind (kR3k i j) := (rfl)
def kR3i (y z : D) (i : Int) (o : Obs) : R (List D) := (R.opt o (intD y)).bind (kR3j z i)
@[simp] theorem kR3i_ap (y z : D) (i : Int) : kR3i y z i o = (R.opt o (intD y)).bind (kR3j z i) := (rfl)
def kR3c (x : D) (y : D) (z : D) (o : Obs) : R (List D) := (R.opt o (intD x)).bind (kR3i y z)
@[simp] theorem kR3c_ap (x : D) (y : D) (z : D) : kR3c x y z o = (R.opt o (intD x)).bind (kR3i y z) := (rfl)
def kR3b (c : E) (env : Env) (x : D) (y : D) (o : Obs) : R (List D) := (denE Φ G c env o).bind (kR3c x y)
@[simp] theorem kR3b_ap (c : E) (env : Env) (x : D) (y : D) : kR3b Φ G c env x y o = (denE Φ G c env o).bind (kR3c x y) := (rfl)
def kR3a (b : E) (c : E) (env : Env) (x : D) (o : Obs) : R (List D) := (denE Φ G b env o).bind (kR3b Φ G c env x)
@[simp] theorem kR3a_ap (b : E) (c : E) (env : Env) (x : D) : kR3a Φ G b c env x o = (denE Φ G b env o).bind (kR3b Φ G c env x) := (rfl)
@[simp] theorem dI_r3 (a b c : E) : denI Φ G (.r3 a b c) env o = (denE Φ G a env o).bind (kR3a Φ G b c env) := by
  show (denE Φ G a env o).bind _ = _
  congr 1; funext x o; show (denE Φ G b env o).bind _ = (denE Φ G b env o).bind _
  congr 1; funext y o; show (denE Φ G c env o).bind _ = (denE Φ G c env o).bind _
  congr 1; funext z o; cases x <;> first | rfl | (cases y <;> first | rfl | (cases z <;> first | rfl | skip))
  rename_i i j k
  show (if Builtin.Range.small i j k && decide (k ≠ 0 ∧ k.natAbs < 1073741824 ∧ 0 ≤ Builtin.Range.rangeSize i j k) then _ else _) = R.opt o (rng3 i j k)
  unfold rng3
  cases (Builtin.Range.small i j k && decide (k ≠ 0 ∧ k.natAbs < 1073741824 ∧ 0 ≤ Builtin.Range.rangeSize i j k)) <;> rfl
def kDsp  (ds : List D) (o : Obs) : R (List D) := (if ds.length ≤ sizeLine then .ok ds o else .bad)
@[simp] theorem kDsp_ap  (ds : List D) : kDsp  ds o = (if ds.length ≤ sizeLine then .ok ds o else .bad) := (rfl)
@[simp] theorem dF_dsp (es : Es) : denF Φ G (.dsp es) env o = (denEs Φ G es env o).bind kDsp := (rfl)
@[simp] theorem dF_lo (e : E) : denF Φ G (.lo e) env o = (denE Φ G e env o).bind kSeq := by
  show (denE Φ G e env o).bind _ = _
  congr 1; funext x o; cases x <;> rfl
@[simp] theorem dPs_nil  : denPs Φ G [] env o = .ok [] o := (rfl)
def kPs2 (s : Sl) (xs : List Sl) (o : Obs) : R (List Sl) := .ok (s :: xs) o
@[simp] theorem kPs2_ap (s : Sl) (xs : List Sl) : kPs2 s xs o = .ok (s :: xs) o := (rfl)
def kPs1 (r : List (E ⊕ Fr)) (env : Env) (x : D) (o : Obs) : R (List Sl) := (denPs Φ G r env o).bind (kPs2 (.v x))
@[simp] theorem kPs1_ap (r : List (E ⊕ Fr)) (env : Env) (x : D) : kPs1 Φ G r env x o = (denPs Φ G r env o).bind (kPs2 (.v x)) := (rfl)
def kPs1f (r : List (E ⊕ Fr)) (env : Env) (x : List D) (o : Obs) : R (List Sl) := (denPs Φ G r env o).bind (kPs2 (.ol x))
@[simp] theorem kPs1f_ap (r : List (E ⊕ Fr)) (env : Env) (x : List D) : kPs1f Φ G r env x o = (denPs Φ G r env o).bind (kPs2 (.ol x)) := (rfl)
@[simp] theorem dPs_inl (e : E) (r : List (E ⊕ Fr)) : denPs Φ G (.inl e :: r) env o = (denE Φ G e env o).bind (kPs1 Φ G r env) := (rfl)
@[simp] theorem dPs_inr (e : Fr) (r : List (E ⊕ Fr)) : denPs Φ G (.inr e :: r) env o = (denF Φ G e env o).bind (kPs1f Φ G r env) := (rfl)
@[simp] theorem setSl_nil  : setSl [] [] env = some env := (rfl)
@[simp] theorem setSl_cons (i : Nat) (is : List Nat) (s : Sl) (ss : List Sl) : setSl (i :: is) (s :: ss) env = setSl is ss (env.set i s) := (rfl)
@[simp] theorem setTs_nil  : setTs [] [] env = some env := (rfl)
@[simp] theorem setTs_cons (i : Nat) (is : List Nat) (s : D) (ss : List D) : setTs (i :: is) (s :: ss) env = setTs is ss (env.set i (.v s)) := (rfl)
@[simp] theorem setTg_nm (i : Nat) (d : D) : setTg (.nm i) d env = some (env.set i (.v d)) := (rfl)
@[simp] theorem setTg_tp (ts : List Nat) (ds : List D) : setTg (.tp ts) (.tup ds) env = if ds.length = ts.length then setTs ts ds env else none := (rfl)
@[simp] theorem setTg_tt (ts : List (Nat ⊕ List Nat)) (ds : List D) : setTg (.tt ts) (.tup ds) env = if ds.length = ts.length then setTt ts ds env else none := (rfl)
@[simp] theorem setTt_nil : setTt [] [] env = some env := (rfl)
@[simp] theorem setTt_cons (t : Nat ⊕ List Nat) (ts : List (Nat ⊕ List Nat)) (d : D) (ds : List D) : setTt (t :: ts) (d :: ds) env = (setT1 t d env).bind (setTt ts ds) := (rfl)
@[simp] theorem setT1_inl (i : Nat) (d : D) : setT1 (.inl i) d env = some (env.set i (.v d)) := (rfl)
@[simp] theorem setT1_inr (ts : List Nat) (ds : List D) : setT1 (.inr ts) (.tup ds) env = if ds.length = ts.length then setTs ts ds env else none := (rfl)
@[simp] theorem wipeE_nil  : wipeE env [] = env := (rfl)
@[simp] theorem wipeE_cons (v : Nat) (vs : List Nat) : wipeE env (v :: vs) = (wipeE env vs).set v .un := (rfl)
variable (N : Nat)
def slL (env : Env) (i : Nat) : Option (List D) := match env[i]? with | some (.ol ds) => some ds | _ => none
@[simp] theorem slL_zero (d : List D) (l : Env) : slL (.ol d :: l) 0 = some d := (rfl)
@[simp] theorem slL_succ (s : Sl) (l : Env) (i : Nat) : slL (s :: l) (i + 1) = slL l i := (rfl)
@[simp] theorem lent_zero (d : List D) (l : Env) : lent 0 (.ol d :: l) = some (.v (.lst d) :: l) := (rfl)
@[simp] theorem lent_succ (s : Sl) (l : Env) (i : Nat) : lent (i + 1) (s :: l) = (lent i l).map (s :: ·) := by
  unfold lent
  rw [List.getElem?_cons_succ]
  cases l[i]? with
  | none => rfl
  | some t => cases t <;> rfl
def qSet (i : Nat) (env : Env) (x : D) (o : Obs) : RS := .nx (env.set i (.v x)) o
@[simp] theorem qSet_ap (i : Nat) (env : Env) (x : D) : qSet i env x o = .nx (env.set i (.v x)) o := (rfl)
@[simp] theorem dS_set (i : Nat) (e : E) : denS Φ G N (.set i e) env o = (denE Φ G e env o).st env (qSet i env) := (rfl)
def qNew (i : Nat) (env : Env) (x : List D) (o : Obs) : RS := .nx (env.set i (.ol x)) o
@[simp] theorem qNew_ap (i : Nat) (env : Env) (x : List D) : qNew i env x o = .nx (env.set i (.ol x)) o := (rfl)
@[simp] theorem dS_new (i : Nat) (f : Fr) : denS Φ G N (.new i f) env o = (denF Φ G f env o).st env (qNew i env) := (rfl)
def qNx  (env : Env) (o : Obs) : RS := .nx env o
@[simp] theorem qNx_ap  (env : Env) : qNx  env o = .nx env o := (rfl)
def qTup (ts : List Nat) (env : Env) (x : D) (o : Obs) : RS := (R.opt o (setTg (.tp ts) x env)).st env qNx
@[simp] theorem qTup_ap (ts : List Nat) (env : Env) (x : D) : qTup ts env x o = (R.opt o (setTg (.tp ts) x env)).st env qNx := (rfl)
@[simp] theorem dS_tup (ts : List Nat) (e : E) : denS Φ G N (.tup ts e) env o = (denE Φ G e env o).st env (qTup ts env) := by
  show (denE Φ G e env o).st env _ = _
  congr 1; funext x o
  show (match setTg (.tp ts) x env with | some env => RS.nx env o | none => .bad) = (R.opt o (setTg (.tp ts) x env)).st env qNx
  cases setTg (.tp ts) x env <;> rfl
def qTgt (tg : Tg) (env : Env) (x : D) (o : Obs) : RS := (R.opt o (setTg tg x env)).st env qNx
@[simp] theorem qTgt_ap (tg : Tg) (env : Env) (x : D) : qTgt tg env x o = (R.opt o (setTg tg x env)).st env qNx := (rfl)
@[simp] theorem dS_tgt (tg : Tg) (e : E) : denS Φ G N (.tgt tg e) env o = (denE Φ G e env o).st env (qTgt tg env) := by
  show (denE Φ G e env o).st env _ = _
  congr 1; funext x o
  show (match setTg tg x env with | some env => RS.nx env o | none => .bad) = (R.opt o (setTg tg x env)).st env qNx
  cases setTg tg x env <;> rfl
def qPar (ts : List Nat) (env : Env) (xs : List Sl) (o : Obs) : RS := (R.opt o (setSl ts xs env)).st env qNx
@[simp] theorem qPar_ap (ts : List Nat) (env : Env) (xs : List Sl) : qPar ts env xs o = (R.opt o (setSl ts xs env)).st env qNx := (rfl)
@[simp] theorem dS_par (ts : List Nat) (es : List (E ⊕ Fr)) : denS Φ G N (.par ts es) env o = (denPs Φ G es env o).st env (qPar ts env) := by
  show (denPs Φ G es env o).st env _ = _
  congr 1; funext x o
  show (match setSl ts x env with | some env => RS.nx env o | none => .bad) = (R.opt o (setSl ts x env)).st env qNx
  cases setSl ts x env <;> rfl
def qAug (i : Nat) (op : Operator) (env : Env) (x : D) (y : D) (o : Obs) : RS := (R.opt o (augD op x y)).st env (qSet i env)
@[simp] theorem qAug_ap (i : Nat) (op : Operator) (env : Env) (x : D) (y : D) : qAug i op env x y o = (R.opt o (augD op x y)).st env (qSet i env) := (rfl)
def qAug0 (i : Nat) (op : Operator) (e : E) (env : Env) (x : D) (o : Obs) : RS := (denE Φ G e env o).st env (qAug i op env x)
@[simp] theorem qAug0_ap (i : Nat) (op : Operator) (e : E) (env : Env) (x : D) : qAug0 Φ G i op e env x o = (denE Φ G e env o).st env (qAug i op env x) := (rfl)
@[simp] theorem dS_aug (i : Nat) (op : Operator) (e : E) : denS Φ G N (.aug i op e) env o = (R.opt o (getD' env i)).st env (qAug0 Φ G i op e env) := by
  have : denS Φ G N (.aug i op e) env o = match env[i]? with
    | some (.v x) => (denE Φ G e env o).st env fun y o => match augD op x y with
      | some z => .nx (env.set i (.v z)) o
      | none => .bad
    | _ => .bad := rfl
  rw [this]; unfold getD'
  cases env[i]? with
  | none => rfl
  | some s =>
    cases s <;> first | rfl | skip
    rename_i d
    show (denE Φ G e env o).st env _ = (denE Φ G e env o).st env _
    congr 1; funext y o
    show (match augD op d y with | some z => RS.nx (env.set i (.v z)) o | none => .bad) = (R.opt o (augD op d y)).st env (qSet i env)
    cases augD op d y <;> rfl
def qApp (i : Nat) (env : Env) (ds : List D) (x : D) (o : Obs) : RS := (if ds.length < sizeLine then .nx (env.set i (.ol (ds ++ [x]))) o else .bad)
@[simp] theorem qApp_ap (i : Nat) (env : Env) (ds : List D) (x : D) : qApp i env ds x o = (if ds.length < sizeLine then .nx (env.set i (.ol (ds ++ [x]))) o else .bad) := (rfl)
def qApp0 (i : Nat) (e : E) (env : Env) (ds : List D) (o : Obs) : RS := (denE Φ G e env o).st env (qApp i env ds)
@[simp] theorem qApp0_ap (i : Nat) (e : E) (env : Env) (ds : List D) : qApp0 Φ G i e env ds o = (denE Φ G e env o).st env (qApp i env ds) := (rfl)
@[simp] theorem dS_app (i : Nat) (e : E) : denS Φ G N (.app i e) env o = (R.opt o (slL env i)).st env (qApp0 Φ G i e env) := by
  have : denS Φ G N (.app i e) env o = match env[i]? with
    | some (.ol ds) => (denE Φ G e env o).st env fun x o => if ds.length < sizeLine then .nx (env.set i (.ol (ds ++ [x]))) o else .bad
    | _ => .bad := rfl
  rw [this]; unfold slL
  cases env[i]? with
  | none => rfl
  | some s => cases s <;> rfl
def qPut4 (env : Env) (x : D) (y : D) (ds : List D) (n : Nat) (o : Obs) : RS := .nx env (setO o y (ds.set n x))
@[simp] theorem qPut4_ap (env : Env) (x : D) (y : D) (ds : List D) (n : Nat) : qPut4 env x y ds n o = .nx env (setO o y (ds.set n x)) := (rfl)
def qPut3 (env : Env) (x : D) (y : D) (j : Int) (ds : List D) (o : Obs) : RS := (R.opt o (ixN ds.length j)).st env (qPut4 env x y ds)
@[simp] theorem qPut3_ap (env : Env) (x : D) (y : D) (j : Int) (ds : List D) : qPut3 env x y j ds o = (R.opt o (ixN ds.length j)).st env (qPut4 env x y ds) := (rfl)
def qPut2 (env : Env) (x : D) (y : D) (j : Int) (o : Obs) : RS := (R.opt o (lsO o y)).st env (qPut3 env x y j)
@[simp] theorem qPut2_ap (env : Env) (x : D) (y : D) (j : Int) : qPut2 env x y j o = (R.opt o (lsO o y)).st env (qPut3 env x y j) := (rfl)
def qPutZ (env : Env) (x : D) (y : D) (z : D) (o : Obs) : RS := (R.opt o (intD z)).st env (qPut2 env x y)
@[simp] theorem qPutZ_ap (env : Env) (x : D) (y : D) (z : D) : qPutZ env x y z o = (R.opt o (intD z)).st env (qPut2 env x y) := (rfl)
def qPut1 (k : E) (env : Env) (x : D) (y : D) (o : Obs) : RS := (denE Φ G k env o).st env (qPutZ env x y)
@[simp] theorem qPut1_ap (k : E) (env : Env) (x : D) (y : D) : qPut1 Φ G k env x y o = (denE Φ G k env o).st env (qPutZ env x y) := (rfl)
def qPut0 (a : E) (k : E) (env : Env) (x : D) (o : Obs) : RS := (denE Φ G a env o).st env (qPut1 Φ G k env x)
@[simp] theorem qPut0_ap (a : E) (k : E) (env : Env) (x : D) : qPut0 Φ G a k env x o = (denE Φ G a env o).st env (qPut1 Φ G k env x) := (rfl)
@[simp] theorem dS_oput (a k e : E) : denS Φ G N (.oput a k e) env o = (denE Φ G e env o).st env (qPut0 Φ G a k env) := by
  show (denE Φ G e env o).st env _ = _
  congr 1; funext x o; show (denE Φ G a env o).st env _ = (denE Φ G a env o).st env _
  congr 1; funext y o; show (denE Φ G k env o).st env _ = (denE Φ G k env o).st env _
  congr 1; funext z o
  cases z <;> first | rfl | skip
  rename_i j
  show (match lsO o y with | some ds => (match ixN ds.length j with | some n => RS.nx env (setO o y (ds.set n x)) | none => .bad) | none => .bad) = (R.opt o (lsO o y)).st env (qPut3 env x y j)
  cases lsO o y with
  | none => rfl
  | some ds =>
    show (match ixN ds.length j with | some n => RS.nx env (setO o y (ds.set n x)) | none => .bad) = (R.opt o (ixN ds.length j)).st env (qPut4 env x y ds)
    cases ixN ds.length j <;> rfl
def qRet  (x : D) (o : Obs) : RS := .rt x o
@[simp] theorem qRet_ap  (x : D) : qRet  x o = .rt x o := (rfl)
@[simp] theorem dS_ret (e : E) : denS Φ G N (.ret e) env o = (denE Φ G e env o).st env qRet := (rfl)
@[simp] theorem dS_ret0  : denS Φ G N .ret0 env o = .rt .non o := (rfl)
def qMv  (ds : List D) (o : Obs) : RS := .rt (.lst ds) o
@[simp] theorem qMv_ap  (ds : List D) : qMv  ds o = .rt (.lst ds) o := (rfl)
@[simp] theorem dS_mv (i : Nat) : denS Φ G N (.mv i) env o = (R.opt o (slL env i)).st env qMv := by
  have : denS Φ G N (.mv i) env o = match env[i]? with
    | some (.ol ds) => .rt (.lst ds) o
    | _ => .bad := rfl
  rw [this]; unfold slL
  cases env[i]? with
  | none => rfl
  | some s => cases s <;> rfl
def ifSs (b : Bool) (x y : Ss) (env : Env) (o : Obs) : RS := if b then denSs Φ G N x env o else denSs Φ G N y env o
@[simp] theorem ifSs_t (x y : Ss) : ifSs Φ G N true x y env o = denSs Φ G N x env o := (rfl)
@[simp] theorem ifSs_f (x y : Ss) : ifSs Φ G N false x y env o = denSs Φ G N y env o := (rfl)
def qIfe (a : Ss) (b : Ss) (env : Env) (k : Bool) (o : Obs) : RS := ifSs Φ G N k a b env o
@[simp] theorem qIfe_ap (a : Ss) (b : Ss) (env : Env) (k : Bool) : qIfe Φ G N a b env k o = ifSs Φ G N k a b env o := (rfl)
@[simp] theorem dS_ife (c : E) (a b : Ss) : denS Φ G N (.ife c a b) env o = (denT Φ G c env o).st env (qIfe Φ G N a b env) := (rfl)
@[simp] theorem dS_whl (c : E) (b : Ss) : denS Φ G N (.whl c b) env o = whileD (denT Φ G c) (denSs Φ G N b) N env o := (rfl)
def qFor (tg : Tg) (b : Ss) (env : Env) (ds : List D) (o : Obs) : RS := forD tg (denSs Φ G N b) ds env o
@[simp] theorem qFor_ap (tg : Tg) (b : Ss) (env : Env) (ds : List D) : qFor Φ G N tg b env ds o = forD tg (denSs Φ G N b) ds env o := (rfl)
@[simp] theorem dS_for (tg : Tg) (it : It) (b : Ss) : denS Φ G N (.for_ tg it b) env o = (denI Φ G it env o).st env (qFor Φ G N tg b env) := (rfl)
def qExp (env : Env) (x : D) (o : Obs) : RS := .nx env o
@[simp] theorem qExp_ap (env : Env) (x : D) : qExp env x o = .nx env o := (rfl)
@[simp] theorem dS_exp (e : E) : denS Φ G N (.exp e) env o = (denE Φ G e env o).st env (qExp env) := (rfl)
@[simp] theorem raiseD_int (c : Str) (env : Env) (i : Int) (o : Obs) : raiseD c env (.int i) o = if i.natAbs < 1000000 then .ex c (.int i) env o else .bad := (rfl)
@[simp] theorem dS_rse (c : Str) (e : E) : denS Φ G N (.rse c e) env o = (denE Φ G e env o).st env (raiseD c env) := (rfl)
@[simp] theorem dS_trye (b : Ss) (c : Str) (h : Hd) : denS Φ G N (.trye b c h) env o = tryD c h (denSs Φ G N b env o) := (rfl)
@[simp] theorem tryD_nx (c : Str) (h : Hd) (env : Env) (o : Obs) : tryD c h (.nx env o) = .nx env o := (rfl)
@[simp] theorem tryD_rt (c : Str) (h : Hd) (d : D) (o : Obs) : tryD c h (.rt d o) = .rt d o := (rfl)
@[simp] theorem tryD_bk (c : Str) (h : Hd) (env : Env) (o : Obs) : tryD c h (.bk env o) = .bk env o := (rfl)
@[simp] theorem tryD_ct (c : Str) (h : Hd) (env : Env) (o : Obs) : tryD c h (.ct env o) = .ct env o := (rfl)
@[simp] theorem tryD_bad (c : Str) (h : Hd) : tryD c h .bad = .bad := (rfl)
@[simp] theorem tryD_ex (c : Str) (h : Hd) (a : D) (env : Env) (o : Obs) : tryD c h (.ex c a env o) = denHd h a env o := if_pos rfl
@[simp] theorem denHd_fld (i j : Nat) (k : Int) (env : Env) (o : Obs) : denHd (.fld i j) (.int k) env o = if i < env.length then .nx (((env.set i .un).set j (.v (.int k))).set i .un) o else .bad := (rfl)
@[simp] theorem denHd_set (j : Nat) (d a : D) (env : Env) (o : Obs) : denHd (.set j d) a env o = .nx (env.set j (.v d)) o := by cases a <;> rfl
@[simp] theorem denHd_ret (d a : D) (env : Env) (o : Obs) : denHd (.ret d) a env o = .rt d o := by cases a <;> rfl
@[simp] theorem dS_pass  : denS Φ G N .pass env o = .nx env o := (rfl)
@[simp] theorem dS_brk  : denS Φ G N .brk env o = .bk env o := (rfl)
@[simp] theorem dS_cnt  : denS Φ G N .cnt env o = .ct env o := (rfl)
@[simp] theorem dSs_nil  : denSs Φ G N .nil env o = .nx env o := (rfl)
@[simp] theorem dSs_cons (s : S) (r : Ss) : denSs Φ G N (.cons s r) env o = (denS Φ G N s env o).seq (denSs Φ G N r) := (rfl)
def frzE (i : Nat) (env : Env) : Env := match env[i]? with | some (.ol ds) => env.set i (.v (.lst ds)) | _ => env
@[simp] theorem frzE_zero (d : List D) (l : Env) : frzE 0 (.ol d :: l) = .v (.lst d) :: l := (rfl)
@[simp] theorem frzE_succ (s : Sl) (l : Env) (i : Nat) : frzE (i + 1) (s :: l) = s :: frzE i l := by
  unfold frzE
  rw [List.getElem?_cons_succ]
  cases l[i]? with
  | none => rfl
  | some t => cases t <;> rfl
@[simp] theorem dSs_frz (i : Nat) (r : Ss) : denSs Φ G N (.frz i r) env o = denSs Φ G N r (frzE i env) o := by
  show (match env[i]? with | some (.ol ds) => denSs Φ G N r (env.set i (.v (.lst ds))) o | _ => denSs Φ G N r env o) = _
  unfold frzE
  cases env[i]? with
  | none => rfl
  | some s => cases s <;> rfl
end
/-! ### operators on data of known shape -/
@[simp] theorem bin_add (a b : D) : binD .Add a b = addD a b := (rfl)
@[simp] theorem bin_sub (a b : D) : binD .Sub a b = subD a b := (rfl)
@[simp] theorem bin_mul (a b : D) : binD .Mult a b = mulD a b := (rfl)
@[simp] theorem bin_div (a b : D) : binD .FloorDiv a b = divD a b := (rfl)
@[simp] theorem bin_mod (a b : D) : binD .Mod a b = modD a b := (rfl)
@[simp] theorem bin_pow (a b : D) : binD .Pow a b = powD a b := (rfl)
@[simp] theorem add_int (a b : Int) : addD (.int a) (.int b) = some (.int (a + b)) := (rfl)
@[simp] theorem sub_int (a b : Int) : subD (.int a) (.int b) = some (.int (a - b)) := (rfl)
@[simp] theorem add_tup (a b : List D) : addD (.tup a) (.tup b) = if a.length + b.length ≤ sizeLine then some (.tup (a ++ b)) else none := (rfl)
@[simp] theorem add_lst (a b : List D) : addD (.lst a) (.lst b) = if a.length + b.length ≤ sizeLine then some (.lst (a ++ b)) else none := (rfl)
@[simp] theorem mul_int (a b : Int) : mulD (.int a) (.int b) = cond (mulOk a b) (some (.int (a * b))) none := by
  show (if mulOk a b then _ else _) = _
  cases mulOk a b <;> rfl
@[simp] theorem mod_int (a b : Int) : modD (.int a) (.int b) = if b = 0 then none else some (.int (a.fmod b)) := (rfl)
def divOk (b : Int) : Bool := decide (b ≠ 0 ∧ b.natAbs < 1073741824) || decide (0 < b ∧ b.natAbs.log2 < 9000)
@[simp] theorem div_int (a b : Int) : divD (.int a) (.int b) = cond (divOk b) (some (.int (a.fdiv b))) none := by
  show (if (decide (b ≠ 0 ∧ b.natAbs < 1073741824) || decide (0 < b ∧ b.natAbs.log2 < 9000)) = true then _ else _) = _
  show _ = cond (decide (b ≠ 0 ∧ b.natAbs < 1073741824) || decide (0 < b ∧ b.natAbs.log2 < 9000)) _ _
  cases (decide (b ≠ 0 ∧ b.natAbs < 1073741824) || decide (0 < b ∧ b.natAbs.log2 < 9000)) <;> rfl
@[simp] theorem divOk_s {b : Int} (h0 : ¬ b = 0) (h : b.natAbs < 1073741824) : divOk b = true := by
  unfold divOk
  rw [Bool.or_eq_true]
  exact .inl (decide_eq_true ⟨h0, h⟩)
theorem divOk_w {b : Int} (h0 : 0 < b) (h : b.natAbs.log2 < 9000) : divOk b = true := by
  unfold divOk
  rw [Bool.or_eq_true]
  exact .inr (decide_eq_true ⟨h0, h⟩)
@[simp] theorem divOk_32 : divOk 4294967296 = true := by decide +kernel
@[simp] theorem min_tup (x : Int) (xs : List Int) : biD "min" [.tup ((x :: xs).map .int)] = some (.int (minI x xs)) := by
  show (match intsD _ with | some (x :: xs) => some (D.int (minI x xs)) | _ => none) = _
  rw [intsD_map]
@[simp] theorem cmp_lt (a b : Int) : cmpD .Lt (.int a) (.int b) = some (decide (a < b)) := (rfl)
@[simp] theorem cmp_le (a b : Int) : cmpD .LtE (.int a) (.int b) = some (decide (a ≤ b)) := (rfl)
@[simp] theorem cmp_gt (a b : Int) : cmpD .Gt (.int a) (.int b) = some (decide (b < a)) := (rfl)
@[simp] theorem cmp_ge (a b : Int) : cmpD .GtE (.int a) (.int b) = some (decide (b ≤ a)) := (rfl)
@[simp] theorem cmp_eqI (a b : Int) : cmpD .Eq (.int a) (.int b) = some (decide (a = b)) := by
  show (if (SeqAt.shaped (.int a) && SeqAt.shaped (.int b)) = true then some (PyData.eqv (.int a) (.int b)) else none) = _
  rw [show (SeqAt.shaped (.int a) && SeqAt.shaped (.int b)) = true from rfl, if_pos rfl]
  congr 1
@[simp] theorem cmp_eqB (a b : Bool) : cmpD .Eq (.bl a) (.bl b) = some (a == b) := by
  show (if (SeqAt.shaped (.bool a) && SeqAt.shaped (.bool b)) = true then some (PyData.eqv (.bool a) (.bool b)) else none) = _
  rw [show (SeqAt.shaped (.bool a) && SeqAt.shaped (.bool b)) = true from rfl, if_pos rfl]
  cases a <;> cases b <;> rfl
/-- a text that may be compared -/
def okS (a : Str) : Bool := SeqAt.shaped (.str a)
@[simp] theorem cmp_eqS {a b : Str} (h : okS a = true) (h2 : okS b = true) : cmpD .Eq (.str a) (.str b) = some (a == b) := by
  show (if (okS a && okS b) = true then some (PyData.eqv (.str a) (.str b)) else none) = _
  rw [h, h2, Bool.and_self, if_pos rfl]
  rfl
@[simp] theorem cmp_isN : cmpD .Is .non .non = some true := (rfl)
@[simp] theorem cmp_isB (b : Bool) : cmpD .Is (.bl b) .non = some false := (rfl)
@[simp] theorem cmp_isI (b : Int) : cmpD .Is (.int b) .non = some false := (rfl)
@[simp] theorem cmp_isS (b : Str) : cmpD .Is (.str b) .non = some false := (rfl)
@[simp] theorem cmp_isT (b : List D) : cmpD .Is (.tup b) .non = some false := (rfl)
@[simp] theorem cmp_isL (b : List D) : cmpD .Is (.lst b) .non = some false := (rfl)
@[simp] theorem cmp_nisN : cmpD .IsNot .non .non = some false := (rfl)
@[simp] theorem cmp_nisB (b : Bool) : cmpD .IsNot (.bl b) .non = some true := (rfl)
@[simp] theorem cmp_nisI (b : Int) : cmpD .IsNot (.int b) .non = some true := (rfl)
@[simp] theorem cmp_nisS (b : Str) : cmpD .IsNot (.str b) .non = some true := (rfl)
@[simp] theorem cmp_nisT (b : List D) : cmpD .IsNot (.tup b) .non = some true := (rfl)
@[simp] theorem cmp_nisL (b : List D) : cmpD .IsNot (.lst b) .non = some true := (rfl)
@[simp] theorem cmp_isBB (a b : Bool) : cmpD .Is (.bl a) (.bl b) = some (a == b) := by cases a <;> cases b <;> rfl
@[simp] theorem cmp_nisBB (a b : Bool) : cmpD .IsNot (.bl a) (.bl b) = some (a != b) := by cases a <;> cases b <;> rfl
@[simp] theorem isi_non (t : String) : isiD t .non = some false := (rfl)
@[simp] theorem isi_bl (t : String) (b : Bool) : isiD t (.bl b) = some (t == "bool" || t == "int") := (rfl)
@[simp] theorem isi_int (t : String) (b : Int) : isiD t (.int b) = some (t == "int") := (rfl)
@[simp] theorem isi_str (t : String) (b : Str) : isiD t (.str b) = some (t == "str") := (rfl)
@[simp] theorem isi_tup (t : String) (b : List D) : isiD t (.tup b) = some (t == "tuple") := (rfl)
@[simp] theorem isi_lst (t : String) (b : List D) : isiD t (.lst b) = some (t == "list") := (rfl)
@[simp] theorem cmp_neI (a b : Int) : cmpD .NotEq (.int a) (.int b) = some (!decide (a = b)) := by
  show (cmpD .Eq (.int a) (.int b)).map (!·) = _
  rw [cmp_eqI]; rfl
@[simp] theorem len_tup (a : List D) : biD "len" [.tup a] = some (.int a.length) := (rfl)
@[simp] theorem len_lst (a : List D) : biD "len" [.lst a] = some (.int a.length) := (rfl)
@[simp] theorem len_loc (a : List Int) : biD "len" [.loc a] = some (.int a.length) := (rfl)
@[simp] theorem tuple_lst (a : List D) : biD "tuple" [.lst a] = some (.tup a) := (rfl)
@[simp] theorem tuple_tup (a : List D) : biD "tuple" [.tup a] = some (.tup a) := (rfl)
@[simp] theorem int_int (a : Int) : biD "int" [.int a] = some (.int a) := (rfl)
@[simp] theorem ix_tup (a : List D) (i : Int) : ixD (.tup a) (.int i) = atI a i := (rfl)
@[simp] theorem ix_lst (a : List D) (i : Int) : ixD (.lst a) (.int i) = atI a i := (rfl)
@[simp] theorem sl_tup (a : List D) (l h : Option Int) : slD (.tup a) l h = some (.tup (cutD a l h)) := (rfl)
@[simp] theorem sl_lst (a : List D) (l h : Option Int) : slD (.lst a) l h = some (.lst (cutD a l h)) := (rfl)
@[simp] theorem sl_loc (a : List Int) (l h : Option Int) : slD (.loc a) l h = some (.lst (cutD (a.map .int) l h)) := (rfl)
@[simp] theorem sizeLine_eq : sizeLine = 16777216 := by decide +kernel
@[simp] theorem rev_tup (a : List D) : revD (.tup a) = if a.length ≤ 1000000 then some (.tup a.reverse) else none := (rfl)
@[simp] theorem rev_lst (a : List D) : revD (.lst a) = some (.lst a.reverse) := (rfl)
@[simp] theorem str_int (a : Int) : biD "str" [.int a] = if a.natAbs.log2 < 1920 then some (.str (toString a)) else none := (rfl)
@[simp] theorem tru_bl (b : Bool) : truD (.bl b) = some b := (rfl)
@[simp] theorem tru_non : truD .non = some false := (rfl)
@[simp] theorem R.opt_ite {α : Type} (o : Obs) (c : Prop) [Decidable c] (a : α) : R.opt o (if c then some a else none) = ifK (decide c) (.ok a o) .bad := by
  by_cases h : c <;> simp [h]
@[simp] theorem R.opt_map {α β : Type} (o : Obs) (f : α → β) (x : Option α) : R.opt o (x.map f) = (R.opt o x).map f := by cases x <;> rfl
theorem R.map_bind {α β γ : Type} (x : R α) (f : α → β) (k : β → Obs → R γ) : (x.map f).bind k = x.bind fun a o => k (f a) o := by cases x <;> rfl
end Mp
namespace Mp
open PySem PySem.Spec PyProof.Rows L2
/-! ### calls -/
def endR (x : RS) : R D := match x with
  | .rt d o => .ok d o
  | .nx _ o => .ok .non o
  | .ex c a _ o => .ex c a o
  | _ => .bad
@[simp] theorem endR_ex (c : Str) (d : D) (e : Env) (o : Obs) : endR (.ex c d e o) = .ex c d o := (rfl)
@[simp] theorem endR_rt (d : D) (o : Obs) : endR (.rt d o) = .ok d o := (rfl)
@[simp] theorem endR_nx (d : Env) (o : Obs) : endR (.nx d o) = .ok .non o := (rfl)
theorem endR_wp {x : RS} {P : D → Obs → Prop} (h : x.wp { nx := fun _ o => P .non o, rt := P }) : (endR x).wp P := by
  cases x <;> exact h
theorem runFn_eq {f : Fn} {Φ : Str → List D → Obs → R D} {G : Str → Option D} {N : Nat} {ds : List D} {o : Obs} (h : ds.length = f.ps) : runFn f Φ G N ds o = endR (denSs Φ G N f.body (ds.map .v ++ List.replicate (f.sl - f.ps) .un) o) := by
  unfold runFn
  rw [if_pos h]; rfl
theorem lookup_at {β : Type} : ∀ {l : List (Str × β)} {i : Nat} {x : Str} {e : β}, (l.map (·.1)).Nodup → l[i]? = some (x, e) → l.lookup x = some e
  | [], _, _, _, _, h => by simp at h
  | (y, d) :: r, 0, x, e, n, h => by
    simp at h
    obtain ⟨rfl, rfl⟩ := h
    simp [List.lookup_cons]
  | (y, d) :: r, i + 1, x, e, n, h => by
    simp only [List.map_cons, List.nodup_cons] at n
    have h' : r[i]? = some (x, e) := by simpa using h
    rw [List.lookup_cons]
    have : (x == y) = false := by
      simp only [beq_eq_false_iff_ne, ne_eq]
      rintro rfl
      exact n.1 (List.mem_map.mpr ⟨_, List.mem_of_getElem? h', rfl⟩)
    rw [this]
    exact lookup_at n.2 h'
theorem call_succ {Q : Pg} {M n i : Nat} {f : Str} {e : Fn} (hn : (Q.fn.map (·.1)).Nodup) (h : Q.fn[i]? = some (f, e)) (ds : List D) (o : Obs) (hl : ds.length = e.ps) :
    Q.call M (n + 1) f ds o = endR (denSs (Q.call M n) (fun x => Q.gl.lookup x) M e.body (ds.map .v ++ List.replicate (e.sl - e.ps) .un) o) := by
  show (match Q.fn.lookup f with
    | some e => runFn e (Q.call M n) (fun x => Q.gl.lookup x) M ds o
    | none => _) = _
  rw [lookup_at hn h]
  exact runFn_eq hl
end Mp

set_option Elab.async false
set_option linter.all false
set_option maxRecDepth 100000
set_option maxHeartbeats 4000000
/-! Rules for loops and comprehensions; parts of lists. -/
namespace Mp
open PySem PySem.Spec PyProof.Rows L2

/-! ### parts of lists -/
theorem ixN_nat {n k : Nat} (h : k < n) : ixN n (k : Int) = some k := by
  unfold ixN
  rw [if_pos (by omega), if_pos (by omega)]; simp
theorem atI_nat {α : Type} {l : List α} {k : Nat} (h : k < l.length) : atI l (k : Int) = l[k]? := by
  unfold atI
  rw [ixN_nat h]; rfl
theorem atI_get {α : Type} {l : List α} {i : Int} (h : 0 ≤ i) (h2 : i < l.length) : atI l i = some (l[i.toNat]'(by omega)) := by
  obtain ⟨k, rfl⟩ := Int.eq_ofNat_of_zero_le h
  rw [atI_nat (by omega)]
  simp only [Int.toNat_natCast]
  exact List.getElem?_eq_getElem (by omega)
@[simp] theorem atI_0 {α : Type} (x : α) (l : List α) : atI (x :: l) 0 = some x := by
  have := atI_nat (l := x :: l) (k := 0) (by simp)
  simpa using this
@[simp] theorem atI_1 {α : Type} (x y : α) (l : List α) : atI (x :: y :: l) 1 = some y := by
  have := atI_nat (l := x :: y :: l) (k := 1) (by simp)
  simpa using this
@[simp] theorem atI_2 {α : Type} (x y z : α) (l : List α) : atI (x :: y :: z :: l) 2 = some z := by
  have := atI_nat (l := x :: y :: z :: l) (k := 2) (by simp)
  simpa using this
@[simp] theorem atI_3 {α : Type} (x y z u : α) (l : List α) : atI (x :: y :: z :: u :: l) 3 = some u := by
  have := atI_nat (l := x :: y :: z :: u :: l) (k := 3) (by simp)
  simpa using this
theorem atI_mem {α : Type} {l : List α} {i : Int} (h : 0 ≤ i) (h2 : i < l.length) : ∃ x, atI l i = some x ∧ x ∈ l := ⟨_, atI_get h h2, List.getElem_mem _⟩
theorem sIx_hi (n d : Nat) {k : Int} (h : 0 ≤ k) : HT.sIx n d (some k) = min k.toNat n := by
  show (if k < 0 then (k + n).toNat else min k.toNat n) = _
  rw [if_neg (by omega)]
theorem cut_to {ds : List D} {k : Int} (h : 0 ≤ k) : cutD ds none (some k) = ds.take k.toNat := by
  unfold cutD
  rw [sIx_hi _ _ h]
  show (ds.drop 0).take (min k.toNat ds.length - 0) = _
  rw [List.drop_zero, Nat.sub_zero]
  by_cases q : k.toNat ≤ ds.length
  · rw [Nat.min_eq_left q]
  · rw [Nat.min_eq_right (by omega), List.take_of_length_le (Nat.le_refl _), List.take_of_length_le (by omega)]
theorem cut_from {ds : List D} {k : Int} (h : 0 ≤ k) : cutD ds (some k) none = ds.drop k.toNat := by
  unfold cutD
  rw [sIx_hi _ _ h]
  show (ds.drop (min k.toNat ds.length)).take (ds.length - min k.toNat ds.length) = _
  rw [List.take_of_length_le (by simp)]
  by_cases q : k.toNat ≤ ds.length
  · rw [Nat.min_eq_left q]
  · rw [Nat.min_eq_right (by omega), List.drop_of_length_le (Nat.le_refl _), List.drop_of_length_le (by omega)]
theorem cut_mid {ds : List D} {i k : Int} (h : 0 ≤ i) (h2 : i ≤ k) : cutD ds (some i) (some k) = (ds.drop i.toNat).take (k.toNat - i.toNat) := by
  unfold cutD
  rw [sIx_hi _ _ h, sIx_hi _ _ (by omega)]
  by_cases q : i.toNat ≤ ds.length
  · rw [Nat.min_eq_left q]
    by_cases q2 : k.toNat ≤ ds.length
    · rw [Nat.min_eq_left q2]
    · rw [Nat.min_eq_right (by omega), List.take_of_length_le (by simp), List.take_of_length_le (by simp; omega)]
  · rw [Nat.min_eq_right (a := i.toNat) (by omega), List.drop_of_length_le (Nat.le_refl _), List.drop_of_length_le (by omega)]
    simp
theorem cut_last {ds : List D} : cutD ds none (some (-1)) = ds.dropLast := by
  unfold cutD
  show (ds.drop 0).take ((-1 + (ds.length : Int)).toNat - 0) = _
  rw [List.drop_zero, List.dropLast_eq_take]
  congr 1; omega
@[simp] theorem cut_tail1 (x : D) (l : List D) : cutD (x :: l) (some 1) none = l := by rw [cut_from (by decide)]; rfl
@[simp] theorem cut_tail2 (x y : D) (l : List D) : cutD (x :: y :: l) (some 2) none = l := by rw [cut_from (by decide)]; rfl
@[simp] theorem mulOk_r {a b : Int} (h : b.natAbs < 18446744073709551616) : mulOk a b = true := by
  unfold mulOk
  simp [h]
theorem mulOk_l {a b : Int} (h : a.natAbs < 18446744073709551616) : mulOk a b = true := by
  unfold mulOk
  simp [h]
theorem rangeD_len (lo : Int) (n : Nat) (c : Int) : (rangeD lo n c).length = n := by simp [rangeD]
theorem rangeD_at {lo : Int} {n i : Nat} {c : Int} {d : D} (h : (rangeD lo n c)[i]? = some d) : i < n ∧ d = .int (lo + (i : Nat) * c) := by
  have hi : i < n := by
    have := (List.getElem?_eq_some_iff.mp h).1
    simpa [rangeD_len] using this
  refine ⟨hi, ?_⟩
  simp [rangeD, hi] at h
  exact h.symm
theorem rangeD_succ (lo : Int) (n : Nat) (c : Int) : rangeD lo (n + 1) c = .int lo :: rangeD (lo + c) n c := by
  unfold rangeD
  rw [List.range_succ_eq_map, List.map_cons, List.map_map]
  congr 1
  · simp
  · apply List.map_congr_left
    intro i _
    show D.int (lo + ((i + 1 : Nat) : Int) * c) = .int (lo + c + (i : Int) * c)
    congr 1
    push_cast
    rw [Int.add_mul]; omega
/-! ### comprehensions -/
theorem lcD_map {own : List Nat} {tg : Tg} {t : Env → Obs → R Bool} {x : Env → Obs → R D} {env : Env} {o : Obs} {p : D → Bool} {f : D → D} : ∀ {ds acc : List D}, ds.length + acc.length ≤ sizeLine →
    (∀ d ∈ ds, ∃ e, setTg tg d (wipeE env own) = some e ∧ t e o = .ok (p d) o ∧ (p d = true → x e o = .ok (f d) o)) → lcD own tg t x env ds acc o = .ok (acc ++ (ds.filter p).map f) o
  | [], acc, _, _ => by simp [lcD]
  | d :: ds, acc, hl, h => by
    obtain ⟨e, h1, h2, h3⟩ := h d List.mem_cons_self
    have ih := fun acc' hl' => lcD_map (ds := ds) (acc := acc') hl' fun d' hd => h d' (List.mem_cons_of_mem _ hd)
    unfold lcD
    rw [h1]
    simp only [h2, R.noex_ok, R.bind_ok]
    simp only [List.length_cons, sizeLine_eq] at hl ih ⊢
    cases hp : p d with
    | false =>
      simp only [Bool.false_eq_true, if_false]
      rw [ih acc (by omega), List.filter_cons_of_neg (by simp [hp])]
    | true =>
      simp only [if_true, h3 hp, R.noex_ok, R.bind_ok]
      rw [if_pos (by omega), ih (acc ++ [f d]) (by simp; omega), List.filter_cons_of_pos (by simp [hp])]
      simp
theorem lcD_wp {own : List Nat} {tg : Tg} {t : Env → Obs → R Bool} {x : Env → Obs → R D} {env : Env} {P : List D → Obs → Prop} (J : Nat → List D → Obs → Prop) : ∀ {ds acc : List D} {o : Obs} {i : Nat}, J i acc o →
    (∀ j d acc o, ds[j]? = some d → J (i + j) acc o → ∃ e, setTg tg d (wipeE env own) = some e ∧ (t e o).wp fun b o1 => if b = true then (x e o1).wp fun y o2 => acc.length < sizeLine ∧ J (i + j + 1) (acc ++ [y]) o2 else J (i + j + 1) acc o1) →
    (∀ acc o, J (i + ds.length) acc o → P acc o) → (lcD own tg t x env ds acc o).wp P
  | [], acc, o, i, h, _, fin => by
    unfold lcD
    exact fin acc o h
  | d :: ds, acc, o, i, h, step, fin => by
    obtain ⟨e, h1, h2⟩ := step 0 d acc o rfl h
    unfold lcD
    rw [h1]
    simp only
    obtain ⟨b, o1, h3, h4⟩ := R.wp_eq h2
    rw [h3]
    simp only [R.noex_ok, R.bind_ok]
    have ih := fun acc' o' (h' : J (i + 1) acc' o') => lcD_wp (own := own) (tg := tg) (t := t) (x := x) (env := env) (P := P) J (ds := ds) (acc := acc') (o := o') (i := i + 1) h'
      (fun j d' acc'' o'' hj hJ => by
        have := step (j + 1) d' acc'' o'' (by simpa using hj) (by rw [show i + (j + 1) = i + 1 + j from by omega]; exact hJ)
        rw [show i + (j + 1) = i + 1 + j from by omega] at this
        exact this)
      (fun acc'' o'' hJ => fin acc'' o'' (by rw [List.length_cons, show i + (ds.length + 1) = i + 1 + ds.length from by omega]; exact hJ))
    cases b with
    | false =>
      simp only [Bool.false_eq_true, if_false] at h4 ⊢
      exact ih acc o1 h4
    | true =>
      simp only [if_true] at h4 ⊢
      obtain ⟨y, o2, h5, h6, h7⟩ := R.wp_eq h4
      rw [h5]
      simp only [R.noex_ok, R.bind_ok]
      rw [if_pos h6]
      exact ih (acc ++ [y]) o2 h7
/-! ### loops -/
theorem forD_wp {tg : Tg} {b : Env → Obs → RS} {P : Pt} (J : Nat → Env → Obs → Prop) : ∀ {ds : List D} {env : Env} {o : Obs} {i : Nat}, J i env o →
    (∀ j d env o, ds[j]? = some d → J (i + j) env o → ∃ e, setTg tg d env = some e ∧ (b e o).wp { nx := J (i + j + 1), ct := J (i + j + 1), bk := P.nx, rt := P.rt }) →
    (∀ env o, J (i + ds.length) env o → P.nx env o) → (forD tg b ds env o).wp P
  | [], env, o, i, h, _, fin => by
    unfold forD
    exact fin env o h
  | d :: ds, env, o, i, h, step, fin => by
    obtain ⟨e, h1, h2⟩ := step 0 d env o rfl h
    unfold forD
    rw [h1]
    simp only
    have ih := fun env' o' (h' : J (i + 1) env' o') => forD_wp (tg := tg) (b := b) (P := P) J (ds := ds) (env := env') (o := o') (i := i + 1) h'
      (fun j d' acc'' o'' hj hJ => by
        have := step (j + 1) d' acc'' o'' (by simpa using hj) (by rw [show i + (j + 1) = i + 1 + j from by omega]; exact hJ)
        rw [show i + (j + 1) = i + 1 + j from by omega] at this
        exact this)
      (fun acc'' o'' hJ => fin acc'' o'' (by rw [List.length_cons, show i + (ds.length + 1) = i + 1 + ds.length from by omega]; exact hJ))
    cases hb : b e o with
    | nx e' o' => rw [hb] at h2; exact ih e' o' h2
    | ct e' o' => rw [hb] at h2; exact ih e' o' h2
    | bk e' o' => rw [hb] at h2; exact h2
    | rt d' o' => rw [hb] at h2; exact h2
    | ex cc a e' o' => rw [hb] at h2; exact h2.elim
    | bad => rw [hb] at h2; exact h2.elim
/-- a while: J k holds where k turns at most are left -/
theorem whileD_wp {c : Env → Obs → R Bool} {b : Env → Obs → RS} {P : Pt} (J : Nat → Env → Obs → Prop)
    (step : ∀ k env o, J k env o → (c env o).wp fun t o1 => if t = true then ∃ k', k = k' + 1 ∧ (b env o1).wp { nx := J k', ct := J k', bk := P.nx, rt := P.rt } else P.nx env o1) : ∀ {k n : Nat} {env : Env} {o : Obs}, k < n → J k env o → (whileD c b n env o).wp P
  | k, 0, _, _, h, _ => absurd h (Nat.not_lt_zero _)
  | k, n + 1, env, o, h, hJ => by
    unfold whileD
    obtain ⟨t, o1, h1, h2⟩ := R.wp_eq (step k env o hJ)
    rw [h1]
    simp only [R.st_ok]
    cases t with
    | false =>
      simp only [Bool.false_eq_true, if_false] at h2 ⊢
      exact h2
    | true =>
      simp only [if_true] at h2 ⊢
      obtain ⟨k', rfl, h3⟩ := h2
      have ih := fun env' o' => whileD_wp (P := P) J step (k := k') (n := n) (env := env') (o := o') (by omega)
      cases hb : b env o1 with
      | nx e' o' => rw [hb] at h3; exact ih e' o' h3
      | ct e' o' => rw [hb] at h3; exact ih e' o' h3
      | bk e' o' => rw [hb] at h3; exact h3
      | rt d' o' => rw [hb] at h3; exact h3
      | ex cc a e' o' => rw [hb] at h3; exact h3.elim
      | bad => rw [hb] at h3; exact h3.elim
theorem R.of_wp {α : Type} {x : R α} {a : α} {o : Obs} (h : x.wp fun b o' => b = a ∧ o' = o) : x = .ok a o := by
  obtain ⟨b, o', e, rfl, rfl⟩ := R.wp_eq h
  exact e
theorem endR_seq {x : RS} {f : Env → Obs → RS} {d : D} {o : Obs} (h : x.wp { nx := fun e o' => (endR (f e o')).wp fun b o'' => b = d ∧ o'' = o, rt := fun b o' => b = d ∧ o' = o }) : endR (x.seq f) = .ok d o := by
  refine R.of_wp (endR_wp ?_)
  refine RS.wp_seq (RS.wp_imp h (fun e o' h => ?_) (fun _ _ h => h) (fun _ _ h => h) (fun _ _ h => h))
  obtain ⟨b, o'', e1, rfl, rfl⟩ := R.wp_eq h
  cases q : f e o' with
  | rt d o => rw [q] at e1; cases e1; unfold RS.wp; simp only [q, and_self]
  | nx d o => rw [q] at e1; cases e1; unfold RS.wp; simp only [q, and_self]
  | _ => rw [q] at e1; cases e1
/-! ### plain data -/
mutual
def plainD : D → Bool
  | .non => true | .bl _ => true | .int _ => true | .str x => okS x
  | .tup ds => plainDs ds && decide (ds.length < 16777216)
  | .lst ds => plainDs ds && decide (ds.length < 16777216)
  | _ => false
def plainDs : List D → Bool
  | [] => true
  | d :: ds => plainD d && plainDs ds
end
mutual
def depD : D → Nat
  | .tup ds => depDs ds + 1
  | .lst ds => depDs ds + 1
  | _ => 0
def depDs : List D → Nat
  | [] => 0
  | d :: ds => max (depD d) (depDs ds)
end
theorem plainDs_get : ∀ {ds : List D} {d : D}, plainDs ds = true → d ∈ ds → plainD d = true
  | e :: ds, d, h, m => by
    simp only [plainDs, Bool.and_eq_true] at h
    rcases List.mem_cons.mp m with rfl | m
    · exact h.1
    · exact plainDs_get h.2 m
theorem plainDs_of : ∀ {ds : List D}, (∀ d ∈ ds, plainD d = true) → plainDs ds = true
  | [], _ => rfl
  | d :: ds, h => by
    simp only [plainDs, Bool.and_eq_true]
    exact ⟨h d List.mem_cons_self, plainDs_of fun e he => h e (List.mem_cons_of_mem _ he)⟩
theorem depDs_get : ∀ {ds : List D} {d : D}, d ∈ ds → depD d ≤ depDs ds
  | e :: ds, d, m => by
    simp only [depDs]
    rcases List.mem_cons.mp m with rfl | m
    · exact Nat.le_max_left _ _
    · exact Nat.le_trans (depDs_get m) (Nat.le_max_right _ _)
theorem depDs_le : ∀ {ds : List D} {k : Nat}, (∀ d ∈ ds, depD d ≤ k) → depDs ds ≤ k
  | [], _, _ => Nat.zero_le _
  | d :: ds, k, h => by
    simp only [depDs]
    exact Nat.max_le.mpr ⟨h d List.mem_cons_self, depDs_le fun e he => h e (List.mem_cons_of_mem _ he)⟩
@[simp] theorem smallI_nat (n : Nat) (h : n < 16777216) : smallI (n : Int) = true := by
  unfold smallI
  exact decide_eq_true (by omega)
theorem bls_true : ∀ (n : Nat) (l : List D), l.length = n → blsD (l.map fun _ => D.bl true) = some (List.replicate n true)
  | 0, [], _ => rfl
  | n + 1, d :: l, h => by
    simp only [List.map_cons, blsD, bls_true n l (by simpa using h), Option.map_some, List.replicate_succ]
theorem filter_true {α : Type} (l : List α) : l.filter (fun _ => true) = l := by simp
@[simp] theorem all_repl (n : Nat) (l : List D) (h : l.length = n) : biD "all" [.lst (l.map fun _ => D.bl true)] = some (.bl true) := by
  show (blsD _).map _ = _
  rw [bls_true n l h]
  simp

theorem blsD_mapP {α : Type} (p : α → Bool) : ∀ l : List α, blsD (l.map fun d => D.bl (p d)) = some (l.map p)
  | [] => rfl
  | d :: l => by simp [blsD, blsD_mapP p l]
theorem all_mapD {α : Type} (l : List α) (p : α → Bool) : biD "all" [.lst (l.map fun d => D.bl (p d))] = some (.bl (l.all p)) := by
  show (blsD _).map _ = _
  rw [blsD_mapP]
  simp [List.all_map]
theorem all_trueD {α : Type} (l : List α) : biD "all" [.lst (l.map fun _ => D.bl true)] = some (.bl true) := by
  rw [all_mapD l fun _ => true, List.all_eq_true.mpr fun _ _ => rfl]
theorem any_mapD {α : Type} (l : List α) (p : α → Bool) : biD "any" [.lst (l.map fun d => D.bl (p d))] = some (.bl (l.any p)) := by
  show (blsD _).map _ = _
  rw [blsD_mapP]
  simp [List.any_map]
theorem all_lst (l : List D) : biD "all" [.lst l] = (blsD l).map fun ns => .bl (ns.all id) := rfl
theorem any_lst (l : List D) : biD "any" [.lst l] = (blsD l).map fun ns => .bl (ns.any id) := rfl
/-! equality of plain data -/
mutual
def eqvD : D → D → Bool
  | .non, .non => true
  | .bl a, .bl b => a == b
  | .bl a, .int j => (if a then 1 else 0) == j
  | .int i, .bl b => i == (if b then 1 else 0)
  | .int i, .int j => i == j
  | .str x, .str y => x == y
  | .lst xs, .lst ys => eqvDs xs ys
  | .tup xs, .tup ys => eqvDs xs ys
  | _, _ => false
def eqvDs : List D → List D → Bool
  | [], [] => true
  | x :: xs, y :: ys => eqvD x y && eqvDs xs ys
  | _, _ => false
end
mutual
theorem toP_plain : ∀ {d : D}, plainD d = true → ∃ x, toP d = some x ∧ PyData.canLay0 x = true ∧ PyData.depth x = depD d
  | .non, _ => ⟨_, rfl, rfl, rfl⟩
  | .bl _, _ => ⟨_, rfl, rfl, rfl⟩
  | .int _, _ => ⟨_, rfl, rfl, rfl⟩
  | .str x, h => ⟨_, rfl, by
      have h : okS x = true := by simpa only [plainD] using h
      exact SeqAt.canLay_of_shaped h, rfl⟩
  | .tup ds, h => by
    simp only [plainD, Bool.and_eq_true] at h
    obtain ⟨xs, e, a, b⟩ := toPs_plain h.1
    exact ⟨.tuple xs, by simp [toP, e], by simpa only [PyData.canLay0] using a, by simp only [PyData.depth, depD, b]⟩
  | .lst ds, h => by
    simp only [plainD, Bool.and_eq_true] at h
    obtain ⟨xs, e, a, b⟩ := toPs_plain h.1
    exact ⟨.list xs, by simp [toP, e], by simpa only [PyData.canLay0] using a, by simp only [PyData.depth, depD, b]⟩
  | .ty _, h => by simp [plainD] at h
  | .dic _, h => by simp [plainD] at h
  | .obj _, h => by simp [plainD] at h
  | .loc _, h => by simp [plainD] at h
theorem toPs_plain : ∀ {ds : List D}, plainDs ds = true → ∃ xs, toPs ds = some xs ∧ PyData.canLayAll0 xs = true ∧ PyData.depthAll xs = depDs ds
  | [], _ => ⟨_, rfl, rfl, rfl⟩
  | d :: ds, h => by
    simp only [plainDs, Bool.and_eq_true] at h
    obtain ⟨x, e1, a1, b1⟩ := toP_plain h.1
    obtain ⟨xs, e2, a2, b2⟩ := toPs_plain h.2
    exact ⟨x :: xs, by simp [toPs, e1, e2], by simp only [PyData.canLayAll0, a1, a2]; rfl, by simp only [PyData.depthAll, depDs, b1, b2]⟩
end
mutual
theorem eqv_toP : ∀ {a b : D} {x y : PyData}, toP a = some x → toP b = some y → PyData.eqv x y = eqvD a b
  | .tup as, b, x, y, h1, h2 => by
    simp only [toP, Option.map_eq_some_iff] at h1
    obtain ⟨xs, e1, rfl⟩ := h1
    cases b with
    | tup bs =>
      simp only [toP, Option.map_eq_some_iff] at h2
      obtain ⟨ys, e2, rfl⟩ := h2
      simp only [PyData.eqv, eqvD]
      exact eqv_toPs e1 e2
    | lst bs =>
      simp only [toP, Option.map_eq_some_iff] at h2
      obtain ⟨ys, e2, rfl⟩ := h2
      simp only [PyData.eqv, eqvD]
    | non => cases h2; simp only [PyData.eqv, eqvD]
    | bl _ => cases h2; simp only [PyData.eqv, eqvD]
    | int _ => cases h2; simp only [PyData.eqv, eqvD]
    | str _ => cases h2; simp only [PyData.eqv, eqvD]
    | _ => simp [toP] at h2
  | .lst as, b, x, y, h1, h2 => by
    simp only [toP, Option.map_eq_some_iff] at h1
    obtain ⟨xs, e1, rfl⟩ := h1
    cases b with
    | lst bs =>
      simp only [toP, Option.map_eq_some_iff] at h2
      obtain ⟨ys, e2, rfl⟩ := h2
      simp only [PyData.eqv, eqvD]
      exact eqv_toPs e1 e2
    | tup bs =>
      simp only [toP, Option.map_eq_some_iff] at h2
      obtain ⟨ys, e2, rfl⟩ := h2
      simp only [PyData.eqv, eqvD]
    | non => cases h2; simp only [PyData.eqv, eqvD]
    | bl _ => cases h2; simp only [PyData.eqv, eqvD]
    | int _ => cases h2; simp only [PyData.eqv, eqvD]
    | str _ => cases h2; simp only [PyData.eqv, eqvD]
    | _ => simp [toP] at h2
  | .non, b, x, y, h1, h2 => by
    cases h1
    cases b <;> first | (cases h2; simp only [PyData.eqv, eqvD]) | (simp only [toP, Option.map_eq_some_iff] at h2; obtain ⟨ys, e2, rfl⟩ := h2; simp only [PyData.eqv, eqvD]) | (simp [toP] at h2)
  | .bl _, b, x, y, h1, h2 => by
    cases h1
    cases b <;> first | (cases h2; simp only [PyData.eqv, eqvD]) | (simp only [toP, Option.map_eq_some_iff] at h2; obtain ⟨ys, e2, rfl⟩ := h2; simp only [PyData.eqv, eqvD]) | (simp [toP] at h2)
  | .int _, b, x, y, h1, h2 => by
    cases h1
    cases b <;> first | (cases h2; simp only [PyData.eqv, eqvD]) | (simp only [toP, Option.map_eq_some_iff] at h2; obtain ⟨ys, e2, rfl⟩ := h2; simp only [PyData.eqv, eqvD]) | (simp [toP] at h2)
  | .str _, b, x, y, h1, h2 => by
    cases h1
    cases b <;> first | (cases h2; simp only [PyData.eqv, eqvD]) | (simp only [toP, Option.map_eq_some_iff] at h2; obtain ⟨ys, e2, rfl⟩ := h2; simp only [PyData.eqv, eqvD]) | (simp [toP] at h2)
  | .ty _, _, _, _, h, _ => by simp [toP] at h
  | .dic _, _, _, _, h, _ => by simp [toP] at h
  | .obj _, _, _, _, h, _ => by simp [toP] at h
  | .loc _, _, _, _, h, _ => by simp [toP] at h
theorem eqv_toPs : ∀ {a b : List D} {x y : List PyData}, toPs a = some x → toPs b = some y → PyData.eqvAll x y = eqvDs a b
  | [], [], x, y, h1, h2 => by cases h1; cases h2; simp only [PyData.eqvAll, eqvDs]
  | [], d :: ds, x, y, h1, h2 => by
    cases h1
    simp only [toPs, Option.bind_eq_bind, Option.bind_eq_some_iff, Option.some.injEq] at h2
    obtain ⟨u, _, us, _, rfl⟩ := h2
    simp only [PyData.eqvAll, eqvDs]
  | d :: ds, [], x, y, h1, h2 => by
    cases h2
    simp only [toPs, Option.bind_eq_bind, Option.bind_eq_some_iff, Option.some.injEq] at h1
    obtain ⟨u, _, us, _, rfl⟩ := h1
    simp only [PyData.eqvAll, eqvDs]
  | d :: ds, e :: es, x, y, h1, h2 => by
    simp only [toPs, Option.bind_eq_bind, Option.bind_eq_some_iff, Option.some.injEq] at h1 h2
    obtain ⟨u, a1, us, b1, rfl⟩ := h1
    obtain ⟨w, a2, ws, b2, rfl⟩ := h2
    simp only [PyData.eqvAll, eqvDs]
    rw [eqv_toP a1 a2, eqv_toPs b1 b2]
end
theorem tupP {ds : List D} {k : Nat} (h : ∀ e ∈ ds, plainD e = true ∧ depD e ≤ k) (hl : ds.length < 16777216) : plainD (.tup ds) = true ∧ depD (.tup ds) ≤ k + 1 := by
  refine ⟨?_, ?_⟩
  · simp only [plainD, Bool.and_eq_true, decide_eq_true_eq]
    exact ⟨plainDs_of fun e he => (h e he).1, hl⟩
  · simp only [depD]
    exact Nat.succ_le_succ (depDs_le fun e he => (h e he).2)
/-- plain data that are not too deep -/
def okD (d : D) : Bool := plainD d && decide (depD d ≤ 64)
theorem eq_okD {a b : D} (h1 : okD a = true) (h2 : okD b = true) : cmpD .Eq a b = some (eqvD a b) := by
  unfold okD at h1 h2
  rw [Bool.and_eq_true, decide_eq_true_eq] at h1 h2
  obtain ⟨x, e1, c1, d1⟩ := toP_plain h1.1
  obtain ⟨y, e2, c2, d2⟩ := toP_plain h2.1
  have s1 : SeqAt.shaped x = true := by
    unfold SeqAt.shaped
    rw [c1, d1]; simpa using h1.2
  have s2 : SeqAt.shaped y = true := by
    unfold SeqAt.shaped
    rw [c2, d2]; simpa using h2.2
  show eqD a b = _
  unfold eqD
  rw [e1, e2]
  show (if (SeqAt.shaped x && SeqAt.shaped y) = true then some (PyData.eqv x y) else none) = _
  rw [s1, s2, Bool.and_self, if_pos rfl, eqv_toP e1 e2]
theorem ne_okD {a b : D} (h1 : okD a = true) (h2 : okD b = true) : cmpD .NotEq a b = some (!eqvD a b) := by
  show (cmpD .Eq a b).map (!·) = _
  rw [eq_okD h1 h2]; rfl
theorem okD_int (i : Int) : okD (.int i) = true := rfl
theorem eqvDs_ints : ∀ {as bs : List Int}, eqvDs (as.map .int) (bs.map .int) = decide (as = bs)
  | [], [] => by simp [eqvDs]
  | [], _ :: _ => by simp [eqvDs]
  | _ :: _, [] => by simp [eqvDs]
  | a :: as, b :: bs => by
    simp only [List.map_cons, eqvDs, eqvD, eqvDs_ints]
    by_cases h : a = b <;> simp [h]
end Mp

set_option Elab.async false
set_option linter.all false
set_option maxRecDepth 100000
namespace Mp
open PySem PySem.Spec PyProof.Rows L2
/-! ### the terms of the text (printed) -/
def lawM : Nat := 5000
def lawN : Nat := 30
def top (i : Nat) : Stmt := PySem.Challenge.pw_wireagreed_k20_whole_frames_on_the_wire.main.body.getD i (.Pass ⟨0, 0, 0, 0⟩)
def fs : List Str := [("is_number" : Str), ("is_frame" : Str), ("bits_of" : Str), ("number_of" : Str), ("turn_bits" : Str), ("head_bits" : Str), ("body_bits" : Str), ("flipped_by" : Str), ("check_step" : Str), ("check_of" : Str), ("check_bits" : Str), ("other_bit" : Str), ("run_behind" : Str), ("stuffed" : Str), ("plain_bits" : Str), ("wire_bits" : Str), ("head_size" : Str), ("is_asked_by" : Str), ("due_in_head" : Str), ("due_bit" : Str), ("plain_size" : Str), ("frame_of" : Str), ("read_plain" : Str), ("read_wire" : Str), ("_law_box" : Str), ("_law_load" : Str), ("_law_draw" : Str), ("_law_same" : Str), ("_law_bits" : Str), ("_law_check" : Str), ("_law_stuffed" : Str), ("_law_body" : Str), ("_law_plain" : Str), ("_law_wire" : Str), ("_law_frame" : Str), ("_law_number" : Str), ("_law_filled" : Str), ("_law_unstuffed" : Str), ("_law_begins" : Str), ("_law_good" : Str), ("_law_told" : Str), ("_law_due" : Str), ("law" : Str)]
def bs : List Str := ["!BadBits", "all", "bool", "int", "isinstance", "len", "list", "min", "range", "str", "sum", "tuple"]
def n_is_number : List Str := ["value", "least", "most"]
def m_is_number : Ss := (.cons (.ret (.con (.cons (.isi (.var 0) "int") (.cons (.not (.isi (.var 0) "bool")) (.cons (.chn .LtE .LtE (.var 1) (.var 0) (.var 2)) .nil))))) .nil)
def e_is_number : Fn := ⟨3, 3, m_is_number⟩
theorem c_is_number : chkSs fs bs n_is_number (defScope (top 1)) m_is_number (defBody (top 1)) = true := by decide +kernel
theorem s_is_number : FnScope n_is_number ["value", "least", "most"] (defScope (top 1)) := ⟨by decide +kernel, by decide +kernel, by decide +kernel, by decide +kernel, by decide +kernel, by decide +kernel, by decide +kernel⟩
theorem d_is_number : DTxt fs bs "is_number" (top 1) n_is_number ["value", "least", "most"] e_is_number := ⟨s_is_number, rfl, rfl, by decide, c_is_number, fun kV doc pm an cdv ct us hl => match us, hl with | [_, _, _], _ => rfl⟩
def n_is_frame : List Str := ["value", "byte", "part"]
def m_is_frame : Ss := (.cons (.ife (.dis (.cons (.not (.isi (.var 0) "tuple")) (.cons (.cmp .NotEq (.bi "len" (.cons (.var 0) .nil)) (.lit (.int 4))) (.cons (.not (.bi "all" (.cons (.lc (.isi (.var 2) "bool") (.nm 2) (.sq (.sl (.var 0) (.some (.lit (.int 1))) (.some (.lit (.int 3))))) .none [("part", 2)]) .nil))) .nil))))
  (.cons (.ret (.lit (.bl false))) .nil)
  .nil) (.cons (.ife (.dis (.cons (.not (.call "is_number" (.cons (.ix (.var 0) (.lit (.int 0))) (.cons (.lit (.int 0)) (.cons (.ife (.ix (.var 0) (.lit (.int 1))) (.glob "GREATEST_LONG") (.glob "GREATEST_SHORT")) .nil))))) (.cons (.not (.isi (.ix (.var 0) (.lit (.int 3))) "tuple")) .nil)))
  (.cons (.ret (.lit (.bl false))) .nil)
  .nil) (.cons (.ife (.dis (.cons (.cmp .Gt (.bi "len" (.cons (.ix (.var 0) (.lit (.int 3))) .nil)) (.glob "MOST_BYTES")) (.cons (.con (.cons (.ix (.var 0) (.lit (.int 2))) (.cons (.cmp .NotEq (.ix (.var 0) (.lit (.int 3))) (.tup .nil)) .nil))) .nil)))
  (.cons (.ret (.lit (.bl false))) .nil)
  .nil) (.cons (.ret (.bi "all" (.cons (.lc (.call "is_number" (.cons (.var 1) (.cons (.lit (.int 0)) (.cons (.lit (.int 255)) .nil)))) (.nm 1) (.sq (.ix (.var 0) (.lit (.int 3)))) .none [("byte", 1)]) .nil))) .nil))))
def e_is_frame : Fn := ⟨1, 3, m_is_frame⟩
theorem c_is_frame : chkSs fs bs n_is_frame (defScope (top 10)) m_is_frame (defBody (top 10)) = true := by decide +kernel
theorem s_is_frame : FnScope n_is_frame ["value"] (defScope (top 10)) := ⟨by decide +kernel, by decide +kernel, by decide +kernel, by decide +kernel, by decide +kernel, by decide +kernel, by decide +kernel⟩
theorem d_is_frame : DTxt fs bs "is_frame" (top 10) n_is_frame ["value"] e_is_frame := ⟨s_is_frame, rfl, rfl, by decide, c_is_frame, fun kV doc pm an cdv ct us hl => match us, hl with | [_], _ => rfl⟩
def n_bits_of : List Str := ["number", "size", "found", "_"]
def w_bits_of_0 : Ss := (.cons (.app 2 (.bin .Mod (.var 0) (.lit (.int 2)))) (.cons (.aug 0 .FloorDiv (.lit (.int 2))) .nil))
def m_bits_of : Ss := (.cons (.new 2 (.dsp .nil)) (.cons (.for_ (.nm 3) (.r1 (.var 1)) w_bits_of_0) (.frz 2 (.cons (.ret (.bi "tuple" (.cons (.rev (.var 2)) .nil))) .nil))))
def e_bits_of : Fn := ⟨2, 4, m_bits_of⟩
theorem c_bits_of : chkSs fs bs n_bits_of (defScope (top 11)) m_bits_of (defBody (top 11)) = true := by decide +kernel
theorem s_bits_of : FnScope n_bits_of ["number", "size"] (defScope (top 11)) := ⟨by decide +kernel, by decide +kernel, by decide +kernel, by decide +kernel, by decide +kernel, by decide +kernel, by decide +kernel⟩
theorem d_bits_of : DTxt fs bs "bits_of" (top 11) n_bits_of ["number", "size"] e_bits_of := ⟨s_bits_of, rfl, rfl, by decide, c_bits_of, fun kV doc pm an cdv ct us hl => match us, hl with | [_, _], _ => rfl⟩
def n_number_of : List Str := ["bits", "found", "bit"]
def w_number_of_0 : Ss := (.cons (.set 1 (.bin .Add (.bin .Mult (.var 1) (.lit (.int 2))) (.var 2))) .nil)
def m_number_of : Ss := (.cons (.set 1 (.lit (.int 0))) (.cons (.for_ (.nm 2) (.sq (.var 0)) w_number_of_0) (.cons (.ret (.var 1)) .nil)))
def e_number_of : Fn := ⟨1, 3, m_number_of⟩
theorem c_number_of : chkSs fs bs n_number_of (defScope (top 12)) m_number_of (defBody (top 12)) = true := by decide +kernel
theorem s_number_of : FnScope n_number_of ["bits"] (defScope (top 12)) := ⟨by decide +kernel, by decide +kernel, by decide +kernel, by decide +kernel, by decide +kernel, by decide +kernel, by decide +kernel⟩
theorem d_number_of : DTxt fs bs "number_of" (top 12) n_number_of ["bits"] e_number_of := ⟨s_number_of, rfl, rfl, by decide, c_number_of, fun kV doc pm an cdv ct us hl => match us, hl with | [_], _ => rfl⟩
def n_turn_bits : List Str := ["frame", "asked", "number", "is_long", "is_asked", "_"]
def m_turn_bits : Ss := (.cons (.tup [2, 3, 4, 5] (.var 0)) (.cons (.set 1 (.ife (.var 4) (.glob "WEAK") (.glob "STRONG"))) (.cons (.ife (.not (.var 3))
  (.cons (.ret (.bin .Add (.call "bits_of" (.cons (.var 2) (.cons (.lit (.int 11)) .nil))) (.tup (.cons (.var 1) (.cons (.glob "STRONG") .nil))))) .nil)
  .nil) (.cons (.ret (.bin .Add (.bin .Add (.bin .Add (.call "bits_of" (.cons (.bin .FloorDiv (.var 2) (.glob "LOW_PARTS")) (.cons (.lit (.int 11)) .nil))) (.tup (.cons (.glob "WEAK") (.cons (.glob "WEAK") .nil)))) (.call "bits_of" (.cons (.bin .Mod (.var 2) (.glob "LOW_PARTS")) (.cons (.glob "LOW_SIZE") .nil)))) (.tup (.cons (.var 1) .nil)))) .nil))))
def e_turn_bits : Fn := ⟨1, 6, m_turn_bits⟩
theorem c_turn_bits : chkSs fs bs n_turn_bits (defScope (top 13)) m_turn_bits (defBody (top 13)) = true := by decide +kernel
theorem s_turn_bits : FnScope n_turn_bits ["frame"] (defScope (top 13)) := ⟨by decide +kernel, by decide +kernel, by decide +kernel, by decide +kernel, by decide +kernel, by decide +kernel, by decide +kernel⟩
theorem d_turn_bits : DTxt fs bs "turn_bits" (top 13) n_turn_bits ["frame"] e_turn_bits := ⟨s_turn_bits, rfl, rfl, by decide, c_turn_bits, fun kV doc pm an cdv ct us hl => match us, hl with | [_], _ => rfl⟩
def n_head_bits : List Str := ["frame", "free"]
def m_head_bits : Ss := (.cons (.set 1 (.ife (.ix (.var 0) (.lit (.int 1))) (.tup (.cons (.glob "STRONG") (.cons (.glob "STRONG") .nil))) (.tup (.cons (.glob "STRONG") .nil)))) (.cons (.ret (.bin .Add (.bin .Add (.bin .Add (.tup (.cons (.glob "STRONG") .nil)) (.call "turn_bits" (.cons (.var 0) .nil))) (.var 1)) (.call "bits_of" (.cons (.bi "len" (.cons (.ix (.var 0) (.lit (.int 3))) .nil)) (.cons (.lit (.int 4)) .nil))))) .nil))
def e_head_bits : Fn := ⟨1, 2, m_head_bits⟩
theorem c_head_bits : chkSs fs bs n_head_bits (defScope (top 14)) m_head_bits (defBody (top 14)) = true := by decide +kernel
theorem s_head_bits : FnScope n_head_bits ["frame"] (defScope (top 14)) := ⟨by decide +kernel, by decide +kernel, by decide +kernel, by decide +kernel, by decide +kernel, by decide +kernel, by decide +kernel⟩
theorem d_head_bits : DTxt fs bs "head_bits" (top 14) n_head_bits ["frame"] e_head_bits := ⟨s_head_bits, rfl, rfl, by decide, c_head_bits, fun kV doc pm an cdv ct us hl => match us, hl with | [_], _ => rfl⟩
def n_body_bits : List Str := ["frame", "byte", "bit"]
def m_body_bits : Ss := (.cons (.ret (.bin .Add (.call "head_bits" (.cons (.var 0) .nil)) (.bi "tuple" (.cons (.lc2 (.var 2) (.nm 1) (.sq (.ix (.var 0) (.lit (.int 3)))) .none (.nm 2) (.sq (.call "bits_of" (.cons (.var 1) (.cons (.lit (.int 8)) .nil)))) .none [("byte", 1), ("bit", 2)] [2]) .nil)))) .nil)
def e_body_bits : Fn := ⟨1, 3, m_body_bits⟩
theorem c_body_bits : chkSs fs bs n_body_bits (defScope (top 15)) m_body_bits (defBody (top 15)) = true := by decide +kernel
theorem s_body_bits : FnScope n_body_bits ["frame"] (defScope (top 15)) := ⟨by decide +kernel, by decide +kernel, by decide +kernel, by decide +kernel, by decide +kernel, by decide +kernel, by decide +kernel⟩
theorem d_body_bits : DTxt fs bs "body_bits" (top 15) n_body_bits ["frame"] e_body_bits := ⟨s_body_bits, rfl, rfl, by decide, c_body_bits, fun kV doc pm an cdv ct us hl => match us, hl with | [_], _ => rfl⟩
def n_flipped_by : List Str := ["one", "other", "_", "found", "size"]
def w_flipped_by_0 : Ss := (.cons (.aug 3 .Add (.ife (.cmp .NotEq (.bin .Mod (.var 0) (.lit (.int 2))) (.bin .Mod (.var 1) (.lit (.int 2)))) (.var 4) (.lit (.int 0)))) (.cons (.par [0, 1, 4] [.inl (.bin .FloorDiv (.var 0) (.lit (.int 2))), .inl (.bin .FloorDiv (.var 1) (.lit (.int 2))), .inl (.bin .Mult (.lit (.int 2)) (.var 4))]) .nil))
def m_flipped_by : Ss := (.cons (.par [3, 4] [.inl (.lit (.int 0)), .inl (.lit (.int 1))]) (.cons (.for_ (.nm 2) (.r1 (.glob "CHECK_SIZE")) w_flipped_by_0) (.cons (.ret (.var 3)) .nil)))
def e_flipped_by : Fn := ⟨2, 5, m_flipped_by⟩
theorem c_flipped_by : chkSs fs bs n_flipped_by (defScope (top 21)) m_flipped_by (defBody (top 21)) = true := by decide +kernel
theorem s_flipped_by : FnScope n_flipped_by ["one", "other"] (defScope (top 21)) := ⟨by decide +kernel, by decide +kernel, by decide +kernel, by decide +kernel, by decide +kernel, by decide +kernel, by decide +kernel⟩
theorem d_flipped_by : DTxt fs bs "flipped_by" (top 21) n_flipped_by ["one", "other"] e_flipped_by := ⟨s_flipped_by, rfl, rfl, by decide, c_flipped_by, fun kV doc pm an cdv ct us hl => match us, hl with | [_, _], _ => rfl⟩
def n_check_step : List Str := ["rest", "bit", "turned"]
def m_check_step : Ss := (.cons (.set 2 (.cmp .NotEq (.var 1) (.bin .FloorDiv (.var 0) (.glob "HALF")))) (.cons (.set 0 (.bin .Mod (.bin .Mult (.var 0) (.lit (.int 2))) (.glob "ROUND"))) (.cons (.ret (.ife (.var 2) (.call "flipped_by" (.cons (.var 0) (.cons (.glob "POLYNOMIAL") .nil))) (.var 0))) .nil)))
def e_check_step : Fn := ⟨2, 3, m_check_step⟩
theorem c_check_step : chkSs fs bs n_check_step (defScope (top 22)) m_check_step (defBody (top 22)) = true := by decide +kernel
theorem s_check_step : FnScope n_check_step ["rest", "bit"] (defScope (top 22)) := ⟨by decide +kernel, by decide +kernel, by decide +kernel, by decide +kernel, by decide +kernel, by decide +kernel, by decide +kernel⟩
theorem d_check_step : DTxt fs bs "check_step" (top 22) n_check_step ["rest", "bit"] e_check_step := ⟨s_check_step, rfl, rfl, by decide, c_check_step, fun kV doc pm an cdv ct us hl => match us, hl with | [_, _], _ => rfl⟩
def n_check_of : List Str := ["bits", "rest", "bit"]
def w_check_of_0 : Ss := (.cons (.set 1 (.call "check_step" (.cons (.var 1) (.cons (.var 2) .nil)))) .nil)
def m_check_of : Ss := (.cons (.set 1 (.lit (.int 0))) (.cons (.for_ (.nm 2) (.sq (.var 0)) w_check_of_0) (.cons (.ret (.var 1)) .nil)))
def e_check_of : Fn := ⟨1, 3, m_check_of⟩
theorem c_check_of : chkSs fs bs n_check_of (defScope (top 23)) m_check_of (defBody (top 23)) = true := by decide +kernel
theorem s_check_of : FnScope n_check_of ["bits"] (defScope (top 23)) := ⟨by decide +kernel, by decide +kernel, by decide +kernel, by decide +kernel, by decide +kernel, by decide +kernel, by decide +kernel⟩
theorem d_check_of : DTxt fs bs "check_of" (top 23) n_check_of ["bits"] e_check_of := ⟨s_check_of, rfl, rfl, by decide, c_check_of, fun kV doc pm an cdv ct us hl => match us, hl with | [_], _ => rfl⟩
def n_check_bits : List Str := ["bits"]
def m_check_bits : Ss := (.cons (.ret (.call "bits_of" (.cons (.call "check_of" (.cons (.var 0) .nil)) (.cons (.glob "CHECK_SIZE") .nil)))) .nil)
def e_check_bits : Fn := ⟨1, 1, m_check_bits⟩
theorem c_check_bits : chkSs fs bs n_check_bits (defScope (top 24)) m_check_bits (defBody (top 24)) = true := by decide +kernel
theorem s_check_bits : FnScope n_check_bits ["bits"] (defScope (top 24)) := ⟨by decide +kernel, by decide +kernel, by decide +kernel, by decide +kernel, by decide +kernel, by decide +kernel, by decide +kernel⟩
theorem d_check_bits : DTxt fs bs "check_bits" (top 24) n_check_bits ["bits"] e_check_bits := ⟨s_check_bits, rfl, rfl, by decide, c_check_bits, fun kV doc pm an cdv ct us hl => match us, hl with | [_], _ => rfl⟩
def n_other_bit : List Str := ["bit"]
def m_other_bit : Ss := (.cons (.ret (.bin .Sub (.lit (.int 1)) (.var 0))) .nil)
def e_other_bit : Fn := ⟨1, 1, m_other_bit⟩
theorem c_other_bit : chkSs fs bs n_other_bit (defScope (top 34)) m_other_bit (defBody (top 34)) = true := by decide +kernel
theorem s_other_bit : FnScope n_other_bit ["bit"] (defScope (top 34)) := ⟨by decide +kernel, by decide +kernel, by decide +kernel, by decide +kernel, by decide +kernel, by decide +kernel, by decide +kernel⟩
theorem d_other_bit : DTxt fs bs "other_bit" (top 34) n_other_bit ["bit"] e_other_bit := ⟨s_other_bit, rfl, rfl, by decide, c_other_bit, fun kV doc pm an cdv ct us hl => match us, hl with | [_], _ => rfl⟩
def n_run_behind : List Str := ["last", "run", "bit"]
def m_run_behind : Ss := (.cons (.ret (.ife (.cmp .Eq (.var 2) (.var 0)) (.bin .Add (.var 1) (.lit (.int 1))) (.lit (.int 1)))) .nil)
def e_run_behind : Fn := ⟨3, 3, m_run_behind⟩
theorem c_run_behind : chkSs fs bs n_run_behind (defScope (top 35)) m_run_behind (defBody (top 35)) = true := by decide +kernel
theorem s_run_behind : FnScope n_run_behind ["last", "run", "bit"] (defScope (top 35)) := ⟨by decide +kernel, by decide +kernel, by decide +kernel, by decide +kernel, by decide +kernel, by decide +kernel, by decide +kernel⟩
theorem d_run_behind : DTxt fs bs "run_behind" (top 35) n_run_behind ["last", "run", "bit"] e_run_behind := ⟨s_run_behind, rfl, rfl, by decide, c_run_behind, fun kV doc pm an cdv ct us hl => match us, hl with | [_, _, _], _ => rfl⟩
def n_stuffed : List Str := ["bits", "bit", "found", "last", "run"]
def w_stuffed_0 : Ss := (.cons (.par [4, 3] [.inl (.call "run_behind" (.cons (.var 3) (.cons (.var 4) (.cons (.var 1) .nil)))), .inl (.var 1)]) (.cons (.app 2 (.var 1)) (.cons (.ife (.cmp .Eq (.var 4) (.glob "MOST_LIKE"))
  (.cons (.par [3, 4] [.inl (.call "other_bit" (.cons (.var 1) .nil)), .inl (.lit (.int 1))]) (.cons (.app 2 (.var 3)) .nil))
  .nil) .nil)))
def m_stuffed : Ss := (.cons (.par [2, 3, 4] [.inr (.dsp .nil), .inl (.lit .non), .inl (.lit (.int 0))]) (.cons (.for_ (.nm 1) (.sq (.var 0)) w_stuffed_0) (.frz 2 (.cons (.ret (.bi "tuple" (.cons (.var 2) .nil))) .nil))))
def e_stuffed : Fn := ⟨1, 5, m_stuffed⟩
theorem c_stuffed : chkSs fs bs n_stuffed (defScope (top 36)) m_stuffed (defBody (top 36)) = true := by decide +kernel
theorem s_stuffed : FnScope n_stuffed ["bits"] (defScope (top 36)) := ⟨by decide +kernel, by decide +kernel, by decide +kernel, by decide +kernel, by decide +kernel, by decide +kernel, by decide +kernel⟩
theorem d_stuffed : DTxt fs bs "stuffed" (top 36) n_stuffed ["bits"] e_stuffed := ⟨s_stuffed, rfl, rfl, by decide, c_stuffed, fun kV doc pm an cdv ct us hl => match us, hl with | [_], _ => rfl⟩
def n_plain_bits : List Str := ["frame", "body"]
def m_plain_bits : Ss := (.cons (.set 1 (.call "body_bits" (.cons (.var 0) .nil))) (.cons (.ret (.bin .Add (.var 1) (.call "check_bits" (.cons (.var 1) .nil)))) .nil))
def e_plain_bits : Fn := ⟨1, 2, m_plain_bits⟩
theorem c_plain_bits : chkSs fs bs n_plain_bits (defScope (top 37)) m_plain_bits (defBody (top 37)) = true := by decide +kernel
theorem s_plain_bits : FnScope n_plain_bits ["frame"] (defScope (top 37)) := ⟨by decide +kernel, by decide +kernel, by decide +kernel, by decide +kernel, by decide +kernel, by decide +kernel, by decide +kernel⟩
theorem d_plain_bits : DTxt fs bs "plain_bits" (top 37) n_plain_bits ["frame"] e_plain_bits := ⟨s_plain_bits, rfl, rfl, by decide, c_plain_bits, fun kV doc pm an cdv ct us hl => match us, hl with | [_], _ => rfl⟩
def n_wire_bits : List Str := ["frame"]
def m_wire_bits : Ss := (.cons (.ret (.bin .Add (.call "stuffed" (.cons (.call "plain_bits" (.cons (.var 0) .nil)) .nil)) (.bin .Mult (.tup (.cons (.glob "WEAK") .nil)) (.glob "TAIL")))) .nil)
def e_wire_bits : Fn := ⟨1, 1, m_wire_bits⟩
theorem c_wire_bits : chkSs fs bs n_wire_bits (defScope (top 38)) m_wire_bits (defBody (top 38)) = true := by decide +kernel
theorem s_wire_bits : FnScope n_wire_bits ["frame"] (defScope (top 38)) := ⟨by decide +kernel, by decide +kernel, by decide +kernel, by decide +kernel, by decide +kernel, by decide +kernel, by decide +kernel⟩
theorem d_wire_bits : DTxt fs bs "wire_bits" (top 38) n_wire_bits ["frame"] e_wire_bits := ⟨s_wire_bits, rfl, rfl, by decide, c_wire_bits, fun kV doc pm an cdv ct us hl => match us, hl with | [_], _ => rfl⟩
def n_head_size : List Str := ["plain"]
def m_head_size : Ss := (.cons (.ret (.ife (.cmp .Eq (.ix (.var 0) (.lit (.int 13))) (.glob "WEAK")) (.glob "LONG_HEAD") (.glob "SHORT_HEAD"))) .nil)
def e_head_size : Fn := ⟨1, 1, m_head_size⟩
theorem c_head_size : chkSs fs bs n_head_size (defScope (top 39)) m_head_size (defBody (top 39)) = true := by decide +kernel
theorem s_head_size : FnScope n_head_size ["plain"] (defScope (top 39)) := ⟨by decide +kernel, by decide +kernel, by decide +kernel, by decide +kernel, by decide +kernel, by decide +kernel, by decide +kernel⟩
theorem d_head_size : DTxt fs bs "head_size" (top 39) n_head_size ["plain"] e_head_size := ⟨s_head_size, rfl, rfl, by decide, c_head_size, fun kV doc pm an cdv ct us hl => match us, hl with | [_], _ => rfl⟩
def n_is_asked_by : List Str := ["plain", "size"]
def m_is_asked_by : Ss := (.cons (.ret (.cmp .Eq (.ix (.var 0) (.ife (.cmp .Eq (.var 1) (.glob "LONG_HEAD")) (.lit (.int 32)) (.lit (.int 12)))) (.glob "WEAK"))) .nil)
def e_is_asked_by : Fn := ⟨2, 2, m_is_asked_by⟩
theorem c_is_asked_by : chkSs fs bs n_is_asked_by (defScope (top 40)) m_is_asked_by (defBody (top 40)) = true := by decide +kernel
theorem s_is_asked_by : FnScope n_is_asked_by ["plain", "size"] (defScope (top 40)) := ⟨by decide +kernel, by decide +kernel, by decide +kernel, by decide +kernel, by decide +kernel, by decide +kernel, by decide +kernel⟩
theorem d_is_asked_by : DTxt fs bs "is_asked_by" (top 40) n_is_asked_by ["plain", "size"] e_is_asked_by := ⟨s_is_asked_by, rfl, rfl, by decide, c_is_asked_by, fun kV doc pm an cdv ct us hl => match us, hl with | [_, _], _ => rfl⟩
def n_due_in_head : List Str := ["plain", "size", "at"]
def m_due_in_head : Ss := (.cons (.par [1, 2] [.inl (.call "head_size" (.cons (.var 0) .nil)), .inl (.bi "len" (.cons (.var 0) .nil))]) (.cons (.ife (.cmp .Lt (.var 2) (.bin .Sub (.var 1) (.lit (.int 4))))
  (.cons (.ret (.ife (.cmp .Gt (.var 2) (.ife (.cmp .Eq (.var 1) (.glob "LONG_HEAD")) (.lit (.int 32)) (.lit (.int 12)))) (.glob "STRONG") (.lit .non))) .nil)
  .nil) (.cons (.ife (.call "is_asked_by" (.cons (.var 0) (.cons (.var 1) .nil)))
  (.cons (.ret (.glob "STRONG")) .nil)
  .nil) (.cons (.ret (.ife (.con (.cons (.cmp .Gt (.var 2) (.bin .Sub (.var 1) (.lit (.int 4)))) (.cons (.cmp .Eq (.ix (.var 0) (.bin .Sub (.var 1) (.lit (.int 4)))) (.glob "WEAK")) .nil))) (.glob "STRONG") (.lit .non))) .nil))))
def e_due_in_head : Fn := ⟨1, 3, m_due_in_head⟩
theorem c_due_in_head : chkSs fs bs n_due_in_head (defScope (top 41)) m_due_in_head (defBody (top 41)) = true := by decide +kernel
theorem s_due_in_head : FnScope n_due_in_head ["plain"] (defScope (top 41)) := ⟨by decide +kernel, by decide +kernel, by decide +kernel, by decide +kernel, by decide +kernel, by decide +kernel, by decide +kernel⟩
theorem d_due_in_head : DTxt fs bs "due_in_head" (top 41) n_due_in_head ["plain"] e_due_in_head := ⟨s_due_in_head, rfl, rfl, by decide, c_due_in_head, fun kV doc pm an cdv ct us hl => match us, hl with | [_], _ => rfl⟩
def n_due_bit : List Str := ["plain", "at", "size", "body"]
def m_due_bit : Ss := (.cons (.set 1 (.bi "len" (.cons (.var 0) .nil))) (.cons (.ife (.cmp .Eq (.var 1) (.lit (.int 0)))
  (.cons (.ret (.glob "STRONG")) .nil)
  .nil) (.cons (.ife (.cmp .Lt (.var 1) (.lit (.int 14)))
  (.cons (.ret (.ife (.con (.cons (.cmp .Eq (.var 1) (.lit (.int 13))) (.cons (.cmp .Eq (.ix (.var 0) (.lit (.int 12))) (.glob "STRONG")) .nil))) (.glob "STRONG") (.lit .non))) .nil)
  .nil) (.cons (.set 2 (.call "head_size" (.cons (.var 0) .nil))) (.cons (.ife (.cmp .Lt (.var 1) (.var 2))
  (.cons (.ret (.call "due_in_head" (.cons (.var 0) .nil))) .nil)
  .nil) (.cons (.set 3 (.bin .Add (.var 2) (.bin .Mult (.lit (.int 8)) (.call "number_of" (.cons (.sl (.var 0) (.some (.bin .Sub (.var 2) (.lit (.int 4)))) (.some (.var 2))) .nil))))) (.cons (.ret (.ife (.cmp .Lt (.var 1) (.var 3)) (.lit .non) (.ix (.call "check_bits" (.cons (.sl (.var 0) .none (.some (.var 3))) .nil)) (.bin .Sub (.var 1) (.var 3))))) .nil)))))))
def e_due_bit : Fn := ⟨1, 4, m_due_bit⟩
theorem c_due_bit : chkSs fs bs n_due_bit (defScope (top 42)) m_due_bit (defBody (top 42)) = true := by decide +kernel
theorem s_due_bit : FnScope n_due_bit ["plain"] (defScope (top 42)) := ⟨by decide +kernel, by decide +kernel, by decide +kernel, by decide +kernel, by decide +kernel, by decide +kernel, by decide +kernel⟩
theorem d_due_bit : DTxt fs bs "due_bit" (top 42) n_due_bit ["plain"] e_due_bit := ⟨s_due_bit, rfl, rfl, by decide, c_due_bit, fun kV doc pm an cdv ct us hl => match us, hl with | [_], _ => rfl⟩
def n_plain_size : List Str := ["plain", "size"]
def m_plain_size : Ss := (.cons (.ife (.dis (.cons (.cmp .Lt (.bi "len" (.cons (.var 0) .nil)) (.lit (.int 14))) (.cons (.cmp .Lt (.bi "len" (.cons (.var 0) .nil)) (.call "head_size" (.cons (.var 0) .nil))) .nil)))
  (.cons (.ret (.lit .non)) .nil)
  .nil) (.cons (.set 1 (.call "head_size" (.cons (.var 0) .nil))) (.cons (.ret (.bin .Add (.bin .Add (.var 1) (.bin .Mult (.lit (.int 8)) (.call "number_of" (.cons (.sl (.var 0) (.some (.bin .Sub (.var 1) (.lit (.int 4)))) (.some (.var 1))) .nil)))) (.glob "CHECK_SIZE"))) .nil)))
def e_plain_size : Fn := ⟨1, 2, m_plain_size⟩
theorem c_plain_size : chkSs fs bs n_plain_size (defScope (top 43)) m_plain_size (defBody (top 43)) = true := by decide +kernel
theorem s_plain_size : FnScope n_plain_size ["plain"] (defScope (top 43)) := ⟨by decide +kernel, by decide +kernel, by decide +kernel, by decide +kernel, by decide +kernel, by decide +kernel, by decide +kernel⟩
theorem d_plain_size : DTxt fs bs "plain_size" (top 43) n_plain_size ["plain"] e_plain_size := ⟨s_plain_size, rfl, rfl, by decide, c_plain_size, fun kV doc pm an cdv ct us hl => match us, hl with | [_], _ => rfl⟩
def n_frame_of : List Str := ["plain", "size", "is_long", "number", "many", "data", "k"]
def m_frame_of : Ss := (.cons (.set 1 (.call "head_size" (.cons (.var 0) .nil))) (.cons (.set 2 (.cmp .Eq (.var 1) (.glob "LONG_HEAD"))) (.cons (.set 3 (.call "number_of" (.cons (.sl (.var 0) (.some (.lit (.int 1))) (.some (.lit (.int 12)))) .nil))) (.cons (.set 3 (.ife (.var 2) (.bin .Add (.bin .Mult (.var 3) (.glob "LOW_PARTS")) (.call "number_of" (.cons (.sl (.var 0) (.some (.lit (.int 14))) (.some (.lit (.int 32)))) .nil))) (.var 3))) (.cons (.set 4 (.call "number_of" (.cons (.sl (.var 0) (.some (.bin .Sub (.var 1) (.lit (.int 4)))) (.some (.var 1))) .nil))) (.cons (.set 5 (.bi "tuple" (.cons (.lc (.call "number_of" (.cons (.sl (.var 0) (.some (.bin .Add (.var 1) (.bin .Mult (.lit (.int 8)) (.var 6)))) (.some (.bin .Add (.bin .Add (.var 1) (.bin .Mult (.lit (.int 8)) (.var 6))) (.lit (.int 8))))) .nil)) (.nm 6) (.r1 (.var 4)) .none [("k", 6)]) .nil))) (.cons (.ret (.tup (.cons (.var 3) (.cons (.var 2) (.cons (.call "is_asked_by" (.cons (.var 0) (.cons (.var 1) .nil))) (.cons (.var 5) .nil)))))) .nil)))))))
def e_frame_of : Fn := ⟨1, 7, m_frame_of⟩
theorem c_frame_of : chkSs fs bs n_frame_of (defScope (top 44)) m_frame_of (defBody (top 44)) = true := by decide +kernel
theorem s_frame_of : FnScope n_frame_of ["plain"] (defScope (top 44)) := ⟨by decide +kernel, by decide +kernel, by decide +kernel, by decide +kernel, by decide +kernel, by decide +kernel, by decide +kernel⟩
theorem d_frame_of : DTxt fs bs "frame_of" (top 44) n_frame_of ["plain"] e_frame_of := ⟨s_frame_of, rfl, rfl, by decide, c_frame_of, fun kV doc pm an cdv ct us hl => match us, hl with | [_], _ => rfl⟩
def n_read_plain : List Str := ["bits", "plain", "last", "run", "place", "due"]
def w_read_plain_0 : Ss := (.cons (.ife (.cmp .Eq (.var 4) (.bi "len" (.cons (.var 0) .nil)))
  (.cons (.rse "BadBits" (.var 4)) .nil)
  .nil) (.cons (.set 5 (.bor 1 (.ife (.cmp .Eq (.var 3) (.glob "MOST_LIKE")) (.call "other_bit" (.cons (.var 2) .nil)) (.call "due_bit" (.cons (.bi "tuple" (.cons (.var 1) .nil)) .nil))))) (.cons (.ife (.con (.cons (.cmp .IsNot (.var 5) (.lit .non)) (.cons (.cmp .NotEq (.ix (.var 0) (.var 4)) (.var 5)) .nil)))
  (.cons (.rse "BadBits" (.var 4)) .nil)
  .nil) (.cons (.ife (.cmp .Eq (.var 3) (.glob "MOST_LIKE"))
  (.cons (.set 3 (.lit (.int 1))) .nil)
  (.cons (.set 3 (.call "run_behind" (.cons (.var 2) (.cons (.var 3) (.cons (.ix (.var 0) (.var 4)) .nil))))) (.cons (.app 1 (.ix (.var 0) (.var 4))) .nil))) (.cons (.par [2, 4] [.inl (.ix (.var 0) (.var 4)), .inl (.bin .Add (.var 4) (.lit (.int 1)))]) .nil)))))
def m_read_plain : Ss := (.cons (.par [1, 2, 3, 4] [.inr (.dsp .nil), .inl (.lit .non), .inl (.lit (.int 0)), .inl (.lit (.int 0))]) (.cons (.whl (.bor 1 (.dis (.cons (.cmp .Eq (.var 3) (.glob "MOST_LIKE")) (.cons (.cmp .NotEq (.call "plain_size" (.cons (.var 1) .nil)) (.bi "len" (.cons (.var 1) .nil))) .nil)))) w_read_plain_0) (.frz 1 (.cons (.ret (.tup (.cons (.bi "tuple" (.cons (.var 1) .nil)) (.cons (.var 4) .nil)))) .nil))))
def e_read_plain : Fn := ⟨1, 6, m_read_plain⟩
theorem c_read_plain : chkSs fs bs n_read_plain (defScope (top 45)) m_read_plain (defBody (top 45)) = true := by decide +kernel
theorem s_read_plain : FnScope n_read_plain ["bits"] (defScope (top 45)) := ⟨by decide +kernel, by decide +kernel, by decide +kernel, by decide +kernel, by decide +kernel, by decide +kernel, by decide +kernel⟩
theorem d_read_plain : DTxt fs bs "read_plain" (top 45) n_read_plain ["bits"] e_read_plain := ⟨s_read_plain, rfl, rfl, by decide, c_read_plain, fun kV doc pm an cdv ct us hl => match us, hl with | [_], _ => rfl⟩
def n_read_wire : List Str := ["bits", "step", "plain", "place"]
def w_read_wire_0 : Ss := (.cons (.ife (.dis (.cons (.cmp .Eq (.bin .Add (.var 3) (.var 1)) (.bi "len" (.cons (.var 0) .nil))) (.cons (.con (.cons (.cmp .NotEq (.var 1) (.glob "ANSWER")) (.cons (.cmp .NotEq (.ix (.var 0) (.bin .Add (.var 3) (.var 1))) (.glob "WEAK")) .nil))) .nil)))
  (.cons (.rse "BadBits" (.bin .Add (.var 3) (.var 1))) .nil)
  .nil) .nil)
def m_read_wire : Ss := (.cons (.tup [2, 3] (.call "read_plain" (.cons (.var 0) .nil))) (.cons (.for_ (.nm 1) (.r1 (.glob "TAIL")) w_read_wire_0) (.cons (.ife (.cmp .Lt (.bin .Add (.var 3) (.glob "TAIL")) (.bi "len" (.cons (.var 0) .nil)))
  (.cons (.rse "BadBits" (.bin .Add (.var 3) (.glob "TAIL"))) .nil)
  .nil) (.cons (.ret (.call "frame_of" (.cons (.var 2) .nil))) .nil))))
def e_read_wire : Fn := ⟨1, 4, m_read_wire⟩
theorem c_read_wire : chkSs fs bs n_read_wire (defScope (top 46)) m_read_wire (defBody (top 46)) = true := by decide +kernel
theorem s_read_wire : FnScope n_read_wire ["bits"] (defScope (top 46)) := ⟨by decide +kernel, by decide +kernel, by decide +kernel, by decide +kernel, by decide +kernel, by decide +kernel, by decide +kernel⟩
theorem d_read_wire : DTxt fs bs "read_wire" (top 46) n_read_wire ["bits"] e_read_wire := ⟨s_read_wire, rfl, rfl, by decide, c_read_wire, fun kV doc pm an cdv ct us hl => match us, hl with | [_], _ => rfl⟩
def n__law_box : List Str := ["script"]
def m__law_box : Ss := (.cons (.ret (.onew (.cons (.olist (.sl (.var 0) .none (.some (.lit (.int 63))))) (.cons (.lit (.int 0)) (.cons (.bin .Add (.lit (.int 4711)) (.bi "len" (.cons (.var 0) .nil))) .nil))))) .nil)
def e__law_box : Fn := ⟨1, 1, m__law_box⟩
theorem c__law_box : chkSs fs bs n__law_box (defScope (top 48)) m__law_box (defBody (top 48)) = true := by decide +kernel
theorem s__law_box : FnScope n__law_box ["script"] (defScope (top 48)) := ⟨by decide +kernel, by decide +kernel, by decide +kernel, by decide +kernel, by decide +kernel, by decide +kernel, by decide +kernel⟩
theorem d__law_box : DTxt fs bs "_law_box" (top 48) n__law_box ["script"] e__law_box := ⟨s__law_box, rfl, rfl, by decide, c__law_box, fun kV doc pm an cdv ct us hl => match us, hl with | [_], _ => rfl⟩
def n__law_load : List Str := ["box", "cells", "first", "second", "cell", "size"]
def m__law_load : Ss := (.cons (.set 1 (.oix (.var 0) (.lit (.int 0)))) (.cons (.ife (.cmp .Gt (.olen (.var 1)) (.lit (.int 0)))
  (.cons (.set 4 (.bi "int" (.cons (.om "pop" (.var 1) (.lit (.int 0))) .nil))) (.cons (.set 5 (.ife (.cmp .GtE (.var 4) (.lit (.int 0))) (.bin .Mult (.lit (.int 2)) (.var 4)) (.bin .Sub (.bin .Mult (.neg (.lit (.int 2))) (.var 4)) (.lit (.int 1))))) (.cons (.ife (.cmp .GtE (.var 5) (.lit (.int 1000000000000000000)))
  (.cons (.ret (.var 5)) .nil)
  .nil) (.cons (.oput (.var 0) (.lit (.int 2)) (.bin .Mod (.bi "int" (.cons (.bin .Add (.bin .Add (.bin .Mult (.oix (.var 0) (.lit (.int 2))) (.lit (.int 69621))) (.bin .Mult (.var 5) (.lit (.int 48271)))) (.lit (.int 11))) .nil)) (.lit (.int 2147483647)))) .nil))))
  .nil) (.cons (.set 2 (.bin .Mod (.bi "int" (.cons (.bin .Add (.bin .Mult (.oix (.var 0) (.lit (.int 2))) (.lit (.int 48271))) (.lit (.int 17))) .nil)) (.lit (.int 2147483629)))) (.cons (.set 3 (.bin .Mod (.bi "int" (.cons (.bin .Add (.bin .Mult (.var 2) (.lit (.int 69621))) (.lit (.int 5))) .nil)) (.lit (.int 2147483587)))) (.cons (.oput (.var 0) (.lit (.int 2)) (.bin .Mod (.bi "int" (.cons (.bin .Add (.bin .Mult (.var 3) (.lit (.int 40692))) (.lit (.int 3))) .nil)) (.lit (.int 2147483563)))) (.cons (.ret (.bin .Add (.bin .Add (.bin .Mult (.var 2) (.lit (.int 4611686014132420609))) (.bin .Mult (.var 3) (.lit (.int 2147483647)))) (.oix (.var 0) (.lit (.int 2))))) .nil))))))
def e__law_load : Fn := ⟨1, 6, m__law_load⟩
theorem c__law_load : chkSs fs bs n__law_load (defScope (top 49)) m__law_load (defBody (top 49)) = true := by decide +kernel
theorem s__law_load : FnScope n__law_load ["box"] (defScope (top 49)) := ⟨by decide +kernel, by decide +kernel, by decide +kernel, by decide +kernel, by decide +kernel, by decide +kernel, by decide +kernel⟩
theorem d__law_load : DTxt fs bs "_law_load" (top 49) n__law_load ["box"] e__law_load := ⟨s__law_load, rfl, rfl, by decide, c__law_load, fun kV doc pm an cdv ct us hl => match us, hl with | [_], _ => rfl⟩
def n__law_draw : List Str := ["box", "many", "digit"]
def m__law_draw : Ss := (.cons (.ife (.cmp .Lt (.oix (.var 0) (.lit (.int 1))) (.var 1))
  (.cons (.oput (.var 0) (.lit (.int 1)) (.call "_law_load" (.cons (.var 0) .nil))) .nil)
  .nil) (.cons (.set 2 (.bin .Mod (.bi "int" (.cons (.oix (.var 0) (.lit (.int 1))) .nil)) (.var 1))) (.cons (.oput (.var 0) (.lit (.int 1)) (.bin .FloorDiv (.oix (.var 0) (.lit (.int 1))) (.var 1))) (.cons (.ret (.var 2)) .nil))))
def e__law_draw : Fn := ⟨2, 3, m__law_draw⟩
theorem c__law_draw : chkSs fs bs n__law_draw (defScope (top 50)) m__law_draw (defBody (top 50)) = true := by decide +kernel
theorem s__law_draw : FnScope n__law_draw ["box", "many"] (defScope (top 50)) := ⟨by decide +kernel, by decide +kernel, by decide +kernel, by decide +kernel, by decide +kernel, by decide +kernel, by decide +kernel⟩
theorem d__law_draw : DTxt fs bs "_law_draw" (top 50) n__law_draw ["box", "many"] e__law_draw := ⟨s__law_draw, rfl, rfl, by decide, c__law_draw, fun kV doc pm an cdv ct us hl => match us, hl with | [_, _], _ => rfl⟩
def n__law_same : List Str := ["a", "b", "k"]
def m__law_same : Ss := (.cons (.ife (.dis (.cons (.con (.cons (.isi (.var 0) "tuple") (.cons (.isi (.var 1) "tuple") .nil))) (.cons (.con (.cons (.isi (.var 0) "list") (.cons (.isi (.var 1) "list") .nil))) .nil)))
  (.cons (.ret (.con (.cons (.cmp .Eq (.bi "len" (.cons (.var 0) .nil)) (.bi "len" (.cons (.var 1) .nil))) (.cons (.bi "all" (.cons (.lc (.call "_law_same" (.cons (.ix (.var 0) (.var 2)) (.cons (.ix (.var 1) (.var 2)) .nil))) (.nm 2) (.r1 (.bi "len" (.cons (.var 0) .nil))) .none [("k", 2)]) .nil)) .nil)))) .nil)
  .nil) (.cons (.ife (.dis (.cons (.isi (.var 0) "bool") (.cons (.isi (.var 1) "bool") .nil)))
  (.cons (.ret (.con (.cons (.isi (.var 0) "bool") (.cons (.isi (.var 1) "bool") (.cons (.cmp .Eq (.var 0) (.var 1)) .nil))))) .nil)
  .nil) (.cons (.ife (.dis (.cons (.con (.cons (.isi (.var 0) "int") (.cons (.isi (.var 1) "int") .nil))) (.cons (.con (.cons (.isi (.var 0) "str") (.cons (.isi (.var 1) "str") .nil))) .nil)))
  (.cons (.ret (.cmp .Eq (.var 0) (.var 1))) .nil)
  .nil) (.cons (.ret (.con (.cons (.cmp .Is (.var 0) (.lit .non)) (.cons (.cmp .Is (.var 1) (.lit .non)) .nil)))) .nil))))
def e__law_same : Fn := ⟨2, 3, m__law_same⟩
theorem c__law_same : chkSs fs bs n__law_same (defScope (top 51)) m__law_same (defBody (top 51)) = true := by decide +kernel
theorem s__law_same : FnScope n__law_same ["a", "b"] (defScope (top 51)) := ⟨by decide +kernel, by decide +kernel, by decide +kernel, by decide +kernel, by decide +kernel, by decide +kernel, by decide +kernel⟩
theorem d__law_same : DTxt fs bs "_law_same" (top 51) n__law_same ["a", "b"] e__law_same := ⟨s__law_same, rfl, rfl, by decide, c__law_same, fun kV doc pm an cdv ct us hl => match us, hl with | [_, _], _ => rfl⟩
def n__law_bits : List Str := ["number", "size", "k"]
def m__law_bits : Ss := (.cons (.ret (.lc (.bin .Sub (.bin .FloorDiv (.var 0) (.bin .LShift (.lit (.int 1)) (.bin .Sub (.bin .Sub (.var 1) (.lit (.int 1))) (.var 2)))) (.bin .Mult (.bin .FloorDiv (.var 0) (.bin .LShift (.lit (.int 2)) (.bin .Sub (.bin .Sub (.var 1) (.lit (.int 1))) (.var 2)))) (.lit (.int 2)))) (.nm 2) (.r1 (.var 1)) .none [("k", 2)])) .nil)
def e__law_bits : Fn := ⟨2, 3, m__law_bits⟩
theorem c__law_bits : chkSs fs bs n__law_bits (defScope (top 52)) m__law_bits (defBody (top 52)) = true := by decide +kernel
theorem s__law_bits : FnScope n__law_bits ["number", "size"] (defScope (top 52)) := ⟨by decide +kernel, by decide +kernel, by decide +kernel, by decide +kernel, by decide +kernel, by decide +kernel, by decide +kernel⟩
theorem d__law_bits : DTxt fs bs "_law_bits" (top 52) n__law_bits ["number", "size"] e__law_bits := ⟨s__law_bits, rfl, rfl, by decide, c__law_bits, fun kV doc pm an cdv ct us hl => match us, hl with | [_, _], _ => rfl⟩
def n__law_check : List Str := ["bits", "k", "by", "rest", "j"]
def w__law_check_0 : Ss := (.cons (.ife (.cmp .Eq (.ix (.var 3) (.var 1)) (.lit (.int 1)))
  (.cons (.set 3 (.bin .Add (.bin .Add (.sl (.var 3) .none (.some (.var 1))) (.lc (.ife (.cmp .Eq (.ix (.var 2) (.var 4)) (.lit (.int 1))) (.bin .Sub (.lit (.int 1)) (.ix (.var 3) (.bin .Add (.var 1) (.var 4)))) (.ix (.var 3) (.bin .Add (.var 1) (.var 4)))) (.nm 4) (.r1 (.lit (.int 16))) .none [("j", 4)])) (.sl (.var 3) (.some (.bin .Add (.var 1) (.lit (.int 16)))) .none))) .nil)
  .nil) .nil)
def m__law_check : Ss := (.cons (.par [2, 3] [.inl (.bin .Add (.lst (.cons (.lit (.int 1)) .nil)) (.call "_law_bits" (.cons (.lit (.int 17817)) (.cons (.lit (.int 15)) .nil)))), .inl (.bin .Add (.bi "list" (.cons (.var 0) .nil)) (.bin .Mult (.lst (.cons (.lit (.int 0)) .nil)) (.lit (.int 15))))]) (.cons (.for_ (.nm 1) (.r1 (.bi "len" (.cons (.var 0) .nil))) w__law_check_0) (.cons (.ret (.sl (.var 3) (.some (.bi "len" (.cons (.var 0) .nil))) .none)) .nil)))
def e__law_check : Fn := ⟨1, 5, m__law_check⟩
theorem c__law_check : chkSs fs bs n__law_check (defScope (top 53)) m__law_check (defBody (top 53)) = true := by decide +kernel
theorem s__law_check : FnScope n__law_check ["bits"] (defScope (top 53)) := ⟨by decide +kernel, by decide +kernel, by decide +kernel, by decide +kernel, by decide +kernel, by decide +kernel, by decide +kernel⟩
theorem d__law_check : DTxt fs bs "_law_check" (top 53) n__law_check ["bits"] e__law_check := ⟨s__law_check, rfl, rfl, by decide, c__law_check, fun kV doc pm an cdv ct us hl => match us, hl with | [_], _ => rfl⟩
def n__law_stuffed : List Str := ["bits", "made", "bit"]
def w__law_stuffed_0 : Ss := (.cons (.app 1 (.var 2)) (.cons (.ife (.bor 1 (.con (.cons (.cmp .Gt (.bi "len" (.cons (.var 1) .nil)) (.lit (.int 4))) (.cons (.cmp .In (.bi "sum" (.cons (.sl (.var 1) (.some (.neg (.lit (.int 5)))) .none) .nil)) (.tup (.cons (.lit (.int 0)) (.cons (.lit (.int 5)) .nil)))) .nil))))
  (.cons (.app 1 (.bin .Sub (.lit (.int 1)) (.var 2))) .nil)
  .nil) .nil))
def m__law_stuffed : Ss := (.cons (.new 1 (.dsp .nil)) (.cons (.for_ (.nm 2) (.sq (.var 0)) w__law_stuffed_0) (.frz 1 (.cons (.ret (.var 1)) .nil))))
def e__law_stuffed : Fn := ⟨1, 3, m__law_stuffed⟩
theorem c__law_stuffed : chkSs fs bs n__law_stuffed (defScope (top 54)) m__law_stuffed (defBody (top 54)) = true := by decide +kernel
theorem s__law_stuffed : FnScope n__law_stuffed ["bits"] (defScope (top 54)) := ⟨by decide +kernel, by decide +kernel, by decide +kernel, by decide +kernel, by decide +kernel, by decide +kernel, by decide +kernel⟩
theorem d__law_stuffed : DTxt fs bs "_law_stuffed" (top 54) n__law_stuffed ["bits"] e__law_stuffed := ⟨s__law_stuffed, rfl, rfl, by decide, c__law_stuffed, fun kV doc pm an cdv ct us hl => match us, hl with | [_], _ => rfl⟩
def n__law_body : List Str := ["frame", "asked", "head", "byte", "number", "is_long", "is_asked", "data"]
def w__law_body_0 : Ss := (.cons (.set 2 (.bin .Add (.var 2) (.call "_law_bits" (.cons (.var 3) (.cons (.lit (.int 8)) .nil))))) .nil)
def m__law_body : Ss := (.cons (.tup [4, 5, 6, 7] (.var 0)) (.cons (.set 1 (.ife (.var 6) (.lit (.int 1)) (.lit (.int 0)))) (.cons (.set 2 (.bin .Add (.bin .Add (.lst (.cons (.lit (.int 0)) .nil)) (.call "_law_bits" (.cons (.var 4) (.cons (.lit (.int 11)) .nil)))) (.lst (.cons (.var 1) (.cons (.lit (.int 0)) (.cons (.lit (.int 0)) .nil)))))) (.cons (.ife (.var 5)
  (.cons (.set 2 (.bin .Add (.bin .Add (.bin .Add (.bin .Add (.lst (.cons (.lit (.int 0)) .nil)) (.call "_law_bits" (.cons (.bin .FloorDiv (.var 4) (.lit (.int 262144))) (.cons (.lit (.int 11)) .nil)))) (.lst (.cons (.lit (.int 1)) (.cons (.lit (.int 1)) .nil)))) (.call "_law_bits" (.cons (.bin .Sub (.var 4) (.bin .Mult (.bin .FloorDiv (.var 4) (.lit (.int 262144))) (.lit (.int 262144)))) (.cons (.lit (.int 18)) .nil)))) (.lst (.cons (.var 1) (.cons (.lit (.int 0)) (.cons (.lit (.int 0)) .nil)))))) .nil)
  .nil) (.cons (.set 2 (.bin .Add (.var 2) (.call "_law_bits" (.cons (.bi "len" (.cons (.var 7) .nil)) (.cons (.lit (.int 4)) .nil))))) (.cons (.for_ (.nm 3) (.sq (.var 7)) w__law_body_0) (.cons (.ret (.var 2)) .nil)))))))
def e__law_body : Fn := ⟨1, 8, m__law_body⟩
theorem c__law_body : chkSs fs bs n__law_body (defScope (top 55)) m__law_body (defBody (top 55)) = true := by decide +kernel
theorem s__law_body : FnScope n__law_body ["frame"] (defScope (top 55)) := ⟨by decide +kernel, by decide +kernel, by decide +kernel, by decide +kernel, by decide +kernel, by decide +kernel, by decide +kernel⟩
theorem d__law_body : DTxt fs bs "_law_body" (top 55) n__law_body ["frame"] e__law_body := ⟨s__law_body, rfl, rfl, by decide, c__law_body, fun kV doc pm an cdv ct us hl => match us, hl with | [_], _ => rfl⟩
def n__law_plain : List Str := ["frame", "body"]
def m__law_plain : Ss := (.cons (.set 1 (.call "_law_body" (.cons (.var 0) .nil))) (.cons (.ret (.bin .Add (.var 1) (.call "_law_check" (.cons (.var 1) .nil)))) .nil))
def e__law_plain : Fn := ⟨1, 2, m__law_plain⟩
theorem c__law_plain : chkSs fs bs n__law_plain (defScope (top 56)) m__law_plain (defBody (top 56)) = true := by decide +kernel
theorem s__law_plain : FnScope n__law_plain ["frame"] (defScope (top 56)) := ⟨by decide +kernel, by decide +kernel, by decide +kernel, by decide +kernel, by decide +kernel, by decide +kernel, by decide +kernel⟩
theorem d__law_plain : DTxt fs bs "_law_plain" (top 56) n__law_plain ["frame"] e__law_plain := ⟨s__law_plain, rfl, rfl, by decide, c__law_plain, fun kV doc pm an cdv ct us hl => match us, hl with | [_], _ => rfl⟩
def n__law_wire : List Str := ["frame"]
def m__law_wire : Ss := (.cons (.ret (.bi "tuple" (.cons (.bin .Add (.call "_law_stuffed" (.cons (.call "_law_plain" (.cons (.var 0) .nil)) .nil)) (.bin .Mult (.lst (.cons (.lit (.int 1)) .nil)) (.lit (.int 10)))) .nil))) .nil)
def e__law_wire : Fn := ⟨1, 1, m__law_wire⟩
theorem c__law_wire : chkSs fs bs n__law_wire (defScope (top 57)) m__law_wire (defBody (top 57)) = true := by decide +kernel
theorem s__law_wire : FnScope n__law_wire ["frame"] (defScope (top 57)) := ⟨by decide +kernel, by decide +kernel, by decide +kernel, by decide +kernel, by decide +kernel, by decide +kernel, by decide +kernel⟩
theorem d__law_wire : DTxt fs bs "_law_wire" (top 57) n__law_wire ["frame"] e__law_wire := ⟨s__law_wire, rfl, rfl, by decide, c__law_wire, fun kV doc pm an cdv ct us hl => match us, hl with | [_], _ => rfl⟩
def n__law_frame : List Str := ["box", "most", "top", "number", "data", "is_long", "is_asked", "k"]
def m__law_frame : Ss := (.cons (.par [5, 6] [.inl (.cmp .Eq (.call "_law_draw" (.cons (.var 0) (.cons (.lit (.int 2)) .nil))) (.lit (.int 0))), .inl (.cmp .Eq (.call "_law_draw" (.cons (.var 0) (.cons (.lit (.int 4)) .nil))) (.lit (.int 0)))]) (.cons (.set 2 (.ife (.var 5) (.lit (.int 536870911)) (.lit (.int 2047)))) (.cons (.set 3 (.ix (.tup (.cons (.lit (.int 0)) (.cons (.var 2) (.cons (.call "_law_draw" (.cons (.var 0) (.cons (.bin .Add (.var 2) (.lit (.int 1))) .nil))) (.cons (.call "_law_draw" (.cons (.var 0) (.cons (.lit (.int 32)) .nil))) .nil))))) (.call "_law_draw" (.cons (.var 0) (.cons (.lit (.int 4)) .nil))))) (.cons (.set 4 (.ife (.var 6) (.tup .nil) (.bi "tuple" (.cons (.lc (.ix (.tup (.cons (.lit (.int 0)) (.cons (.lit (.int 255)) (.cons (.call "_law_draw" (.cons (.var 0) (.cons (.lit (.int 256)) .nil))) .nil)))) (.call "_law_draw" (.cons (.var 0) (.cons (.lit (.int 3)) .nil)))) (.nm 7) (.r1 (.call "_law_draw" (.cons (.var 0) (.cons (.bin .Add (.var 1) (.lit (.int 1))) .nil)))) .none [("k", 7)]) .nil)))) (.cons (.ret (.tup (.cons (.var 3) (.cons (.var 5) (.cons (.var 6) (.cons (.var 4) .nil)))))) .nil)))))
def e__law_frame : Fn := ⟨2, 8, m__law_frame⟩
theorem c__law_frame : chkSs fs bs n__law_frame (defScope (top 58)) m__law_frame (defBody (top 58)) = true := by decide +kernel
theorem s__law_frame : FnScope n__law_frame ["box", "most"] (defScope (top 58)) := ⟨by decide +kernel, by decide +kernel, by decide +kernel, by decide +kernel, by decide +kernel, by decide +kernel, by decide +kernel⟩
theorem d__law_frame : DTxt fs bs "_law_frame" (top 58) n__law_frame ["box", "most"] e__law_frame := ⟨s__law_frame, rfl, rfl, by decide, c__law_frame, fun kV doc pm an cdv ct us hl => match us, hl with | [_, _], _ => rfl⟩
def n__law_number : List Str := ["bits", "k"]
def m__law_number : Ss := (.cons (.ret (.bi "sum" (.cons (.lc (.bin .Mult (.ix (.var 0) (.var 1)) (.bin .LShift (.lit (.int 1)) (.bin .Sub (.bin .Sub (.bi "len" (.cons (.var 0) .nil)) (.lit (.int 1))) (.var 1)))) (.nm 1) (.r1 (.bi "len" (.cons (.var 0) .nil))) .none [("k", 1)]) .nil))) .nil)
def e__law_number : Fn := ⟨1, 2, m__law_number⟩
theorem c__law_number : chkSs fs bs n__law_number (defScope (top 59)) m__law_number (defBody (top 59)) = true := by decide +kernel
theorem s__law_number : FnScope n__law_number ["bits"] (defScope (top 59)) := ⟨by decide +kernel, by decide +kernel, by decide +kernel, by decide +kernel, by decide +kernel, by decide +kernel, by decide +kernel⟩
theorem d__law_number : DTxt fs bs "_law_number" (top 59) n__law_number ["bits"] e__law_number := ⟨s__law_number, rfl, rfl, by decide, c__law_number, fun kV doc pm an cdv ct us hl => match us, hl with | [_], _ => rfl⟩
def n__law_filled : List Str := ["plain", "bits", "is_long", "size", "is_asked", "number", "many", "data", "k"]
def m__law_filled : Ss := (.cons (.set 1 (.bin .Add (.bi "list" (.cons (.var 0) .nil)) (.bin .Mult (.lst (.cons (.lit (.int 0)) .nil)) (.lit (.int 200))))) (.cons (.set 2 (.con (.cons (.cmp .Gt (.bi "len" (.cons (.var 0) .nil)) (.lit (.int 13))) (.cons (.cmp .Eq (.ix (.var 1) (.lit (.int 13))) (.lit (.int 1))) .nil)))) (.cons (.set 3 (.ife (.var 2) (.lit (.int 39)) (.lit (.int 19)))) (.cons (.set 4 (.cmp .Eq (.ix (.var 1) (.ife (.var 2) (.lit (.int 32)) (.lit (.int 12)))) (.lit (.int 1)))) (.cons (.set 5 (.ife (.var 2) (.bin .Add (.bin .Mult (.call "_law_number" (.cons (.sl (.var 1) (.some (.lit (.int 1))) (.some (.lit (.int 12)))) .nil)) (.lit (.int 262144))) (.call "_law_number" (.cons (.sl (.var 1) (.some (.lit (.int 14))) (.some (.lit (.int 32)))) .nil))) (.call "_law_number" (.cons (.sl (.var 1) (.some (.lit (.int 1))) (.some (.lit (.int 12)))) .nil)))) (.cons (.set 6 (.bi "min" (.cons (.lit (.int 8)) (.cons (.call "_law_number" (.cons (.sl (.var 1) (.some (.bin .Sub (.var 3) (.lit (.int 4)))) (.some (.var 3))) .nil)) .nil)))) (.cons (.set 7 (.ife (.var 4) (.tup .nil) (.bi "tuple" (.cons (.lc (.call "_law_number" (.cons (.sl (.var 1) (.some (.bin .Add (.var 3) (.bin .Mult (.lit (.int 8)) (.var 8)))) (.some (.bin .Add (.bin .Add (.var 3) (.bin .Mult (.lit (.int 8)) (.var 8))) (.lit (.int 8))))) .nil)) (.nm 8) (.r1 (.var 6)) .none [("k", 8)]) .nil)))) (.cons (.ret (.tup (.cons (.var 5) (.cons (.var 2) (.cons (.var 4) (.cons (.var 7) .nil)))))) .nil))))))))
def e__law_filled : Fn := ⟨1, 9, m__law_filled⟩
theorem c__law_filled : chkSs fs bs n__law_filled (defScope (top 60)) m__law_filled (defBody (top 60)) = true := by decide +kernel
theorem s__law_filled : FnScope n__law_filled ["plain"] (defScope (top 60)) := ⟨by decide +kernel, by decide +kernel, by decide +kernel, by decide +kernel, by decide +kernel, by decide +kernel, by decide +kernel⟩
theorem d__law_filled : DTxt fs bs "_law_filled" (top 60) n__law_filled ["plain"] e__law_filled := ⟨s__law_filled, rfl, rfl, by decide, c__law_filled, fun kV doc pm an cdv ct us hl => match us, hl with | [_], _ => rfl⟩
def n__law_unstuffed : List Str := ["bits", "k", "plain", "run"]
def w__law_unstuffed_0 : Ss := (.cons (.ife (.cmp .Eq (.var 3) (.lit (.int 5)))
  (.cons (.set 3 (.lit (.int 1))) .nil)
  (.cons (.set 3 (.ife (.con (.cons (.cmp .Gt (.var 1) (.lit (.int 0))) (.cons (.cmp .Eq (.ix (.var 0) (.var 1)) (.ix (.var 0) (.bin .Sub (.var 1) (.lit (.int 1))))) .nil))) (.bin .Add (.var 3) (.lit (.int 1))) (.lit (.int 1)))) (.cons (.app 2 (.ix (.var 0) (.var 1))) .nil))) .nil)
def m__law_unstuffed : Ss := (.cons (.par [2, 3] [.inr (.dsp .nil), .inl (.lit (.int 0))]) (.cons (.for_ (.nm 1) (.r1 (.bi "len" (.cons (.var 0) .nil))) w__law_unstuffed_0) (.frz 2 (.cons (.ret (.var 2)) .nil))))
def e__law_unstuffed : Fn := ⟨1, 4, m__law_unstuffed⟩
theorem c__law_unstuffed : chkSs fs bs n__law_unstuffed (defScope (top 61)) m__law_unstuffed (defBody (top 61)) = true := by decide +kernel
theorem s__law_unstuffed : FnScope n__law_unstuffed ["bits"] (defScope (top 61)) := ⟨by decide +kernel, by decide +kernel, by decide +kernel, by decide +kernel, by decide +kernel, by decide +kernel, by decide +kernel⟩
theorem d__law_unstuffed : DTxt fs bs "_law_unstuffed" (top 61) n__law_unstuffed ["bits"] e__law_unstuffed := ⟨s__law_unstuffed, rfl, rfl, by decide, c__law_unstuffed, fun kV doc pm an cdv ct us hl => match us, hl with | [_], _ => rfl⟩
def n__law_begins : List Str := ["bits", "frame", "wire", "answer", "k"]
def m__law_begins : Ss := (.cons (.set 1 (.call "_law_filled" (.cons (.call "_law_unstuffed" (.cons (.var 0) .nil)) .nil))) (.cons (.set 2 (.call "_law_wire" (.cons (.var 1) .nil))) (.cons (.set 3 (.bin .Sub (.bi "len" (.cons (.var 2) .nil)) (.lit (.int 9)))) (.cons (.ret (.con (.cons (.cmp .LtE (.bi "len" (.cons (.var 0) .nil)) (.bi "len" (.cons (.var 2) .nil))) (.cons (.bi "all" (.cons (.lc (.dis (.cons (.cmp .Eq (.var 4) (.var 3)) (.cons (.cmp .Eq (.ix (.var 0) (.var 4)) (.ix (.var 2) (.var 4))) .nil))) (.nm 4) (.r1 (.bi "len" (.cons (.var 0) .nil))) .none [("k", 4)]) .nil)) .nil)))) .nil))))
def e__law_begins : Fn := ⟨1, 5, m__law_begins⟩
theorem c__law_begins : chkSs fs bs n__law_begins (defScope (top 62)) m__law_begins (defBody (top 62)) = true := by decide +kernel
theorem s__law_begins : FnScope n__law_begins ["bits"] (defScope (top 62)) := ⟨by decide +kernel, by decide +kernel, by decide +kernel, by decide +kernel, by decide +kernel, by decide +kernel, by decide +kernel⟩
theorem d__law_begins : DTxt fs bs "_law_begins" (top 62) n__law_begins ["bits"] e__law_begins := ⟨s__law_begins, rfl, rfl, by decide, c__law_begins, fun kV doc pm an cdv ct us hl => match us, hl with | [_], _ => rfl⟩
def n__law_good : List Str := ["bits", "frame", "good", "high", "middle"]
def w__law_good_0 : Ss := (.cons (.set 4 (.bin .FloorDiv (.bin .Add (.bin .Add (.var 2) (.var 3)) (.lit (.int 1))) (.lit (.int 2)))) (.cons (.ife (.call "_law_begins" (.cons (.sl (.var 0) .none (.some (.var 4))) .nil))
  (.cons (.set 2 (.var 4)) .nil)
  (.cons (.set 3 (.bin .Sub (.var 4) (.lit (.int 1)))) .nil)) .nil))
def m__law_good : Ss := (.cons (.par [2, 3] [.inl (.lit (.int 0)), .inl (.bi "len" (.cons (.var 0) .nil))]) (.cons (.whl (.cmp .Lt (.var 2) (.var 3)) w__law_good_0) (.cons (.set 1 (.call "_law_filled" (.cons (.call "_law_unstuffed" (.cons (.sl (.var 0) .none (.some (.var 2))) .nil)) .nil))) (.cons (.ret (.tup (.cons (.var 2) (.cons (.chn .Eq .Eq (.var 2) (.bi "len" (.cons (.var 0) .nil)) (.bi "len" (.cons (.call "_law_wire" (.cons (.var 1) .nil)) .nil))) .nil)))) .nil))))
def e__law_good : Fn := ⟨1, 5, m__law_good⟩
theorem c__law_good : chkSs fs bs n__law_good (defScope (top 63)) m__law_good (defBody (top 63)) = true := by decide +kernel
theorem s__law_good : FnScope n__law_good ["bits"] (defScope (top 63)) := ⟨by decide +kernel, by decide +kernel, by decide +kernel, by decide +kernel, by decide +kernel, by decide +kernel, by decide +kernel⟩
theorem d__law_good : DTxt fs bs "_law_good" (top 63) n__law_good ["bits"] e__law_good := ⟨s__law_good, rfl, rfl, by decide, c__law_good, fun kV doc pm an cdv ct us hl => match us, hl with | [_], _ => rfl⟩
def n__law_told : List Str := ["bits", "error", "frame", "bad"]
def w__law_told_0 : Ss := (.cons (.set 2 (.call "read_wire" (.cons (.var 0) .nil))) .nil)
def m__law_told : Ss := (.cons (.par [2, 3] [.inl (.lit .non), .inl (.lit .non)]) (.cons (.trye w__law_told_0 "BadBits" (.fld 1 3)) (.cons (.ret (.tup (.cons (.var 2) (.cons (.var 3) .nil)))) .nil)))
def e__law_told : Fn := ⟨1, 4, m__law_told⟩
theorem c__law_told : chkSs fs bs n__law_told (defScope (top 64)) m__law_told (defBody (top 64)) = true := by decide +kernel
theorem s__law_told : FnScope n__law_told ["bits"] (defScope (top 64)) := ⟨by decide +kernel, by decide +kernel, by decide +kernel, by decide +kernel, by decide +kernel, by decide +kernel, by decide +kernel⟩
theorem d__law_told : DTxt fs bs "_law_told" (top 64) n__law_told ["bits"] e__law_told := ⟨s__law_told, rfl, rfl, by decide, c__law_told, fun kV doc pm an cdv ct us hl => match us, hl with | [_], _ => rfl⟩
def n__law_due : List Str := ["plain", "fits", "bit", "more", "there"]
def w__law_due_0 : Ss := (.cons (.set 3 (.bin .Add (.bi "list" (.cons (.var 0) .nil)) (.lst (.cons (.var 2) .nil)))) (.cons (.set 4 (.call "_law_plain" (.cons (.call "_law_filled" (.cons (.var 3) .nil)) .nil))) (.cons (.set 1 (.bin .Add (.var 1) (.ife (.cmp .Eq (.sl (.var 4) .none (.some (.bi "len" (.cons (.var 3) .nil)))) (.var 3)) (.lst (.cons (.var 2) .nil)) (.lst .nil)))) .nil)))
def m__law_due : Ss := (.cons (.set 1 (.lst .nil)) (.cons (.for_ (.nm 2) (.sq (.tup (.cons (.lit (.int 0)) (.cons (.lit (.int 1)) .nil)))) w__law_due_0) (.cons (.ret (.ife (.cmp .Eq (.bi "len" (.cons (.var 1) .nil)) (.lit (.int 2))) (.lit .non) (.ix (.var 1) (.lit (.int 0))))) .nil)))
def e__law_due : Fn := ⟨1, 5, m__law_due⟩
theorem c__law_due : chkSs fs bs n__law_due (defScope (top 65)) m__law_due (defBody (top 65)) = true := by decide +kernel
theorem s__law_due : FnScope n__law_due ["plain"] (defScope (top 65)) := ⟨by decide +kernel, by decide +kernel, by decide +kernel, by decide +kernel, by decide +kernel, by decide +kernel, by decide +kernel⟩
theorem d__law_due : DTxt fs bs "_law_due" (top 65) n__law_due ["plain"] e__law_due := ⟨s__law_due, rfl, rfl, by decide, c__law_due, fun kV doc pm an cdv ct us hl => match us, hl with | [_], _ => rfl⟩
def n_law : List Str := ["script", "box", "turn", "frame", "answered", "k", "size", "drawn", "tail", "tries", "some", "wire", "plain", "good", "whole", "told", "bad", "j"]
def w_law_0 : Ss := (.cons (.tup [13, 14] (.call "_law_good" (.cons (.var 10) .nil))) (.cons (.tup [15, 16] (.call "_law_told" (.cons (.var 10) .nil))) (.cons (.ife (.dis (.cons (.not (.call "_law_same" (.cons (.var 16) (.cons (.ife (.var 14) (.lit .non) (.var 13)) .nil)))) (.cons (.con (.cons (.var 14) (.cons (.dis (.cons (.not (.isi (.var 15) "tuple")) (.cons (.cmp .NotIn (.var 10) (.tup (.cons (.call "_law_wire" (.cons (.var 15) .nil)) (.cons (.bin .Add (.bin .Add (.sl (.call "_law_wire" (.cons (.var 15) .nil)) .none (.some (.neg (.lit (.int 9))))) (.tup (.cons (.lit (.int 0)) .nil))) (.sl (.call "_law_wire" (.cons (.var 15) .nil)) (.some (.neg (.lit (.int 8)))) .none)) .nil)))) .nil))) .nil))) .nil)))
  (.cons (.ret (.lit (.bl false))) .nil)
  .nil) .nil)))
def w_law_1 : Ss := (.cons (.set 3 (.call "_law_frame" (.cons (.var 1) (.cons (.lit (.int 4)) .nil)))) (.cons (.par [11, 12] [.inl (.call "_law_wire" (.cons (.var 3) .nil)), .inl (.call "_law_plain" (.cons (.var 3) .nil))]) (.cons (.set 4 (.bin .Add (.bin .Add (.sl (.var 11) .none (.some (.neg (.lit (.int 9))))) (.tup (.cons (.lit (.int 0)) .nil))) (.sl (.var 11) (.some (.neg (.lit (.int 8)))) .none))) (.cons (.ife (.dis (.cons (.cmp .IsNot (.call "is_frame" (.cons (.var 3) .nil)) (.lit (.bl true))) (.cons (.not (.call "_law_same" (.cons (.tup (.cons (.call "wire_bits" (.cons (.var 3) .nil)) (.cons (.call "read_wire" (.cons (.var 11) .nil)) (.cons (.call "read_wire" (.cons (.var 4) .nil)) .nil)))) (.cons (.tup (.cons (.var 11) (.cons (.var 3) (.cons (.var 3) .nil)))) .nil)))) .nil)))
  (.cons (.ret (.lit (.bl false))) .nil)
  .nil) (.cons (.ife (.not (.call "_law_same" (.cons (.tup (.cons (.call "plain_bits" (.cons (.var 3) .nil)) (.cons (.call "frame_of" (.cons (.var 12) .nil)) (.cons (.call "read_plain" (.cons (.var 4) .nil)) .nil)))) (.cons (.tup (.cons (.bi "tuple" (.cons (.var 12) .nil)) (.cons (.var 3) (.cons (.tup (.cons (.bi "tuple" (.cons (.var 12) .nil)) (.cons (.bin .Sub (.bi "len" (.cons (.var 11) .nil)) (.lit (.int 10))) .nil))) .nil)))) .nil))))
  (.cons (.ret (.lit (.bl false))) .nil)
  .nil) (.cons (.set 5 (.call "_law_draw" (.cons (.var 1) (.cons (.bi "len" (.cons (.var 12) .nil)) .nil)))) (.cons (.set 6 (.bin .Add (.bin .Add (.ife (.ix (.var 3) (.lit (.int 1))) (.lit (.int 39)) (.lit (.int 19))) (.bin .Mult (.lit (.int 8)) (.bi "len" (.cons (.ix (.var 3) (.lit (.int 3))) .nil)))) (.lit (.int 15)))) (.cons (.ife (.not (.call "_law_same" (.cons (.tup (.cons (.call "due_bit" (.cons (.bi "tuple" (.cons (.sl (.var 12) .none (.some (.var 5))) .nil)) .nil)) (.cons (.call "plain_size" (.cons (.sl (.var 12) .none (.some (.var 5))) .nil)) (.cons (.call "plain_size" (.cons (.var 12) .nil)) .nil)))) (.cons (.tup (.cons (.call "_law_due" (.cons (.sl (.var 12) .none (.some (.var 5))) .nil)) (.cons (.ife (.cmp .GtE (.var 5) (.ife (.ix (.var 3) (.lit (.int 1))) (.lit (.int 39)) (.lit (.int 19)))) (.var 6) (.lit .non)) (.cons (.var 6) .nil)))) .nil))))
  (.cons (.ret (.lit (.bl false))) .nil)
  .nil) (.cons (.set 5 (.call "_law_draw" (.cons (.var 1) (.cons (.bi "len" (.cons (.var 11) .nil)) .nil)))) (.cons (.set 7 (.bi "tuple" (.cons (.lc (.ife (.cmp .Gt (.var 17) (.lit (.int 0))) (.call "_law_draw" (.cons (.var 1) (.cons (.lit (.int 2)) .nil))) (.lit (.int 0))) (.nm 17) (.r1 (.call "_law_draw" (.cons (.var 1) (.cons (.lit (.int 30)) .nil)))) .none [("j", 17)]) .nil))) (.cons (.set 8 (.bin .Sub (.bin .Sub (.bi "len" (.cons (.var 11) .nil)) (.lit (.int 1))) (.call "_law_draw" (.cons (.var 1) (.cons (.lit (.int 12)) .nil))))) (.cons (.set 9 (.lst (.cons (.sl (.var 11) .none (.some (.var 5))) (.cons (.bin .Add (.bin .Add (.sl (.var 11) .none (.some (.var 5))) (.tup (.cons (.bin .Sub (.lit (.int 1)) (.ix (.var 11) (.var 5))) .nil))) (.sl (.var 11) (.some (.bin .Add (.var 5) (.lit (.int 1)))) .none)) (.cons (.bin .Add (.bin .Add (.sl (.var 4) .none (.some (.var 8))) (.tup (.cons (.bin .Sub (.lit (.int 1)) (.ix (.var 4) (.var 8))) .nil))) (.sl (.var 4) (.some (.bin .Add (.var 8) (.lit (.int 1)))) .none)) (.cons (.bin .Add (.sl (.var 11) .none (.some (.var 5))) (.sl (.var 11) (.some (.bin .Add (.var 5) (.lit (.int 1)))) .none)) (.cons (.var 7) .nil))))))) (.cons (.for_ (.nm 10) (.sq (.var 9)) w_law_0) (.cons (.ife (.not (.call "_law_same" (.cons (.tup (.cons (.call "_law_told" (.cons (.bin .Add (.var 11) (.tup (.cons (.lit (.int 1)) .nil))) .nil)) (.cons (.call "_law_told" (.cons (.bin .Add (.var 4) (.var 11)) .nil)) .nil))) (.cons (.tup (.cons (.tup (.cons (.lit .non) (.cons (.bi "len" (.cons (.var 11) .nil)) .nil))) (.cons (.tup (.cons (.lit .non) (.cons (.bi "len" (.cons (.var 11) .nil)) .nil))) .nil))) .nil))))
  (.cons (.ret (.lit (.bl false))) .nil)
  .nil) .nil))))))))))))))
def m_law : Ss := (.cons (.set 1 (.call "_law_box" (.cons (.var 0) .nil))) (.cons (.for_ (.nm 2) (.r1 (.lit (.int 3))) w_law_1) (.cons (.ret (.con (.cons (.cmp .Eq (.ix (.call "_law_told" (.cons (.tup (.cons (.lit (.int 1)) .nil)) .nil)) (.lit (.int 1))) (.lit (.int 0))) (.cons (.cmp .Eq (.ix (.call "_law_told" (.cons (.tup .nil) .nil)) (.lit (.int 1))) (.lit (.int 0))) .nil)))) .nil)))
def e_law : Fn := ⟨1, 18, m_law⟩
theorem c_law : chkSs fs bs n_law (defScope (top 66)) m_law (defBody (top 66)) = true := by decide +kernel
theorem s_law : FnScope n_law ["script"] (defScope (top 66)) := ⟨by decide +kernel, by decide +kernel, by decide +kernel, by decide +kernel, by decide +kernel, by decide +kernel, by decide +kernel⟩
theorem d_law : DTxt fs bs "law" (top 66) n_law ["script"] e_law := ⟨s_law, rfl, rfl, by decide, c_law, fun kV doc pm an cdv ct us hl => match us, hl with | [_], _ => rfl⟩
def fnL : List (Str × Fn) := [(("is_number" : Str), e_is_number), (("is_frame" : Str), e_is_frame), (("bits_of" : Str), e_bits_of), (("number_of" : Str), e_number_of), (("turn_bits" : Str), e_turn_bits), (("head_bits" : Str), e_head_bits), (("body_bits" : Str), e_body_bits), (("flipped_by" : Str), e_flipped_by), (("check_step" : Str), e_check_step), (("check_of" : Str), e_check_of), (("check_bits" : Str), e_check_bits), (("other_bit" : Str), e_other_bit), (("run_behind" : Str), e_run_behind), (("stuffed" : Str), e_stuffed), (("plain_bits" : Str), e_plain_bits), (("wire_bits" : Str), e_wire_bits), (("head_size" : Str), e_head_size), (("is_asked_by" : Str), e_is_asked_by), (("due_in_head" : Str), e_due_in_head), (("due_bit" : Str), e_due_bit), (("plain_size" : Str), e_plain_size), (("frame_of" : Str), e_frame_of), (("read_plain" : Str), e_read_plain), (("read_wire" : Str), e_read_wire), (("_law_box" : Str), e__law_box), (("_law_load" : Str), e__law_load), (("_law_draw" : Str), e__law_draw), (("_law_same" : Str), e__law_same), (("_law_bits" : Str), e__law_bits), (("_law_check" : Str), e__law_check), (("_law_stuffed" : Str), e__law_stuffed), (("_law_body" : Str), e__law_body), (("_law_plain" : Str), e__law_plain), (("_law_wire" : Str), e__law_wire), (("_law_frame" : Str), e__law_frame), (("_law_number" : Str), e__law_number), (("_law_filled" : Str), e__law_filled), (("_law_unstuffed" : Str), e__law_unstuffed), (("_law_begins" : Str), e__law_begins), (("_law_good" : Str), e__law_good), (("_law_told" : Str), e__law_told), (("_law_due" : Str), e__law_due), (("law" : Str), e_law)]
def glL : List (Str × D) := [("STRONG", (.int 0)), ("WEAK", (.int 1)), ("MOST_BYTES", (.int 8)), ("GREATEST_SHORT", (.int 2047)), ("GREATEST_LONG", (.int 536870911)), ("LOW_SIZE", (.int 18)), ("LOW_PARTS", (.int 262144)), ("CHECK_SIZE", (.int 15)), ("ROUND", (.int 32768)), ("HALF", (.int 16384)), ("POLYNOMIAL", (.int 17817)), ("MOST_LIKE", (.int 5)), ("SHORT_HEAD", (.int 19)), ("LONG_HEAD", (.int 39)), ("TAIL", (.int 10)), ("ANSWER", (.int 1))]
def Q : Pg := ⟨fnL, [], glL⟩
def Gl (x : Str) : Option D := Q.gl.lookup x
@[irreducible] def Fc (n : Nat) (f : Str) : List D → Obs → R D := Q.call lawM n f
theorem Fc_eq (n : Nat) : Fc n = Q.call lawM n := by funext f; unfold Fc; rfl
theorem fn_nodup : (fnL.map (·.1)).Nodup := by decide +kernel
theorem gl_nodup : (glL.map (·.1)).Nodup := by decide +kernel
@[simp] theorem gl_STRONG : Gl "STRONG" = some (.int 0) := lookup_at (i := 0) gl_nodup rfl
@[simp] theorem gl_WEAK : Gl "WEAK" = some (.int 1) := lookup_at (i := 1) gl_nodup rfl
@[simp] theorem gl_MOST_BYTES : Gl "MOST_BYTES" = some (.int 8) := lookup_at (i := 2) gl_nodup rfl
@[simp] theorem gl_GREATEST_SHORT : Gl "GREATEST_SHORT" = some (.int 2047) := lookup_at (i := 3) gl_nodup rfl
@[simp] theorem gl_GREATEST_LONG : Gl "GREATEST_LONG" = some (.int 536870911) := lookup_at (i := 4) gl_nodup rfl
@[simp] theorem gl_LOW_SIZE : Gl "LOW_SIZE" = some (.int 18) := lookup_at (i := 5) gl_nodup rfl
@[simp] theorem gl_LOW_PARTS : Gl "LOW_PARTS" = some (.int 262144) := lookup_at (i := 6) gl_nodup rfl
@[simp] theorem gl_CHECK_SIZE : Gl "CHECK_SIZE" = some (.int 15) := lookup_at (i := 7) gl_nodup rfl
@[simp] theorem gl_ROUND : Gl "ROUND" = some (.int 32768) := lookup_at (i := 8) gl_nodup rfl
@[simp] theorem gl_HALF : Gl "HALF" = some (.int 16384) := lookup_at (i := 9) gl_nodup rfl
@[simp] theorem gl_POLYNOMIAL : Gl "POLYNOMIAL" = some (.int 17817) := lookup_at (i := 10) gl_nodup rfl
@[simp] theorem gl_MOST_LIKE : Gl "MOST_LIKE" = some (.int 5) := lookup_at (i := 11) gl_nodup rfl
@[simp] theorem gl_SHORT_HEAD : Gl "SHORT_HEAD" = some (.int 19) := lookup_at (i := 12) gl_nodup rfl
@[simp] theorem gl_LONG_HEAD : Gl "LONG_HEAD" = some (.int 39) := lookup_at (i := 13) gl_nodup rfl
@[simp] theorem gl_TAIL : Gl "TAIL" = some (.int 10) := lookup_at (i := 14) gl_nodup rfl
@[simp] theorem gl_ANSWER : Gl "ANSWER" = some (.int 1) := lookup_at (i := 15) gl_nodup rfl
theorem r_is_number (n : Nat) (a0 a1 a2 : D) (o : Obs) : Fc (n + 1) "is_number" [a0, a1, a2] o = endR (denSs (Fc n) Gl lawM m_is_number [.v a0, .v a1, .v a2] o) := by
  rw [Fc_eq, Fc_eq]; exact call_succ (Q := Q) (i := 0) fn_nodup rfl [a0, a1, a2] o rfl
theorem r_is_frame (n : Nat) (a0 : D) (o : Obs) : Fc (n + 1) "is_frame" [a0] o = endR (denSs (Fc n) Gl lawM m_is_frame [.v a0, .un, .un] o) := by
  rw [Fc_eq, Fc_eq]; exact call_succ (Q := Q) (i := 1) fn_nodup rfl [a0] o rfl
theorem r_bits_of (n : Nat) (a0 a1 : D) (o : Obs) : Fc (n + 1) "bits_of" [a0, a1] o = endR (denSs (Fc n) Gl lawM m_bits_of [.v a0, .v a1, .un, .un] o) := by
  rw [Fc_eq, Fc_eq]; exact call_succ (Q := Q) (i := 2) fn_nodup rfl [a0, a1] o rfl
theorem r_number_of (n : Nat) (a0 : D) (o : Obs) : Fc (n + 1) "number_of" [a0] o = endR (denSs (Fc n) Gl lawM m_number_of [.v a0, .un, .un] o) := by
  rw [Fc_eq, Fc_eq]; exact call_succ (Q := Q) (i := 3) fn_nodup rfl [a0] o rfl
theorem r_turn_bits (n : Nat) (a0 : D) (o : Obs) : Fc (n + 1) "turn_bits" [a0] o = endR (denSs (Fc n) Gl lawM m_turn_bits [.v a0, .un, .un, .un, .un, .un] o) := by
  rw [Fc_eq, Fc_eq]; exact call_succ (Q := Q) (i := 4) fn_nodup rfl [a0] o rfl
theorem r_head_bits (n : Nat) (a0 : D) (o : Obs) : Fc (n + 1) "head_bits" [a0] o = endR (denSs (Fc n) Gl lawM m_head_bits [.v a0, .un] o) := by
  rw [Fc_eq, Fc_eq]; exact call_succ (Q := Q) (i := 5) fn_nodup rfl [a0] o rfl
theorem r_body_bits (n : Nat) (a0 : D) (o : Obs) : Fc (n + 1) "body_bits" [a0] o = endR (denSs (Fc n) Gl lawM m_body_bits [.v a0, .un, .un] o) := by
  rw [Fc_eq, Fc_eq]; exact call_succ (Q := Q) (i := 6) fn_nodup rfl [a0] o rfl
theorem r_flipped_by (n : Nat) (a0 a1 : D) (o : Obs) : Fc (n + 1) "flipped_by" [a0, a1] o = endR (denSs (Fc n) Gl lawM m_flipped_by [.v a0, .v a1, .un, .un, .un] o) := by
  rw [Fc_eq, Fc_eq]; exact call_succ (Q := Q) (i := 7) fn_nodup rfl [a0, a1] o rfl
theorem r_check_step (n : Nat) (a0 a1 : D) (o : Obs) : Fc (n + 1) "check_step" [a0, a1] o = endR (denSs (Fc n) Gl lawM m_check_step [.v a0, .v a1, .un] o) := by
  rw [Fc_eq, Fc_eq]; exact call_succ (Q := Q) (i := 8) fn_nodup rfl [a0, a1] o rfl
theorem r_check_of (n : Nat) (a0 : D) (o : Obs) : Fc (n + 1) "check_of" [a0] o = endR (denSs (Fc n) Gl lawM m_check_of [.v a0, .un, .un] o) := by
  rw [Fc_eq, Fc_eq]; exact call_succ (Q := Q) (i := 9) fn_nodup rfl [a0] o rfl
theorem r_check_bits (n : Nat) (a0 : D) (o : Obs) : Fc (n + 1) "check_bits" [a0] o = endR (denSs (Fc n) Gl lawM m_check_bits [.v a0] o) := by
  rw [Fc_eq, Fc_eq]; exact call_succ (Q := Q) (i := 10) fn_nodup rfl [a0] o rfl
theorem r_other_bit (n : Nat) (a0 : D) (o : Obs) : Fc (n + 1) "other_bit" [a0] o = endR (denSs (Fc n) Gl lawM m_other_bit [.v a0] o) := by
  rw [Fc_eq, Fc_eq]; exact call_succ (Q := Q) (i := 11) fn_nodup rfl [a0] o rfl
theorem r_run_behind (n : Nat) (a0 a1 a2 : D) (o : Obs) : Fc (n + 1) "run_behind" [a0, a1, a2] o = endR (denSs (Fc n) Gl lawM m_run_behind [.v a0, .v a1, .v a2] o) := by
  rw [Fc_eq, Fc_eq]; exact call_succ (Q := Q) (i := 12) fn_nodup rfl [a0, a1, a2] o rfl
theorem r_stuffed (n : Nat) (a0 : D) (o : Obs) : Fc (n + 1) "stuffed" [a0] o = endR (denSs (Fc n) Gl lawM m_stuffed [.v a0, .un, .un, .un, .un] o) := by
  rw [Fc_eq, Fc_eq]; exact call_succ (Q := Q) (i := 13) fn_nodup rfl [a0] o rfl
theorem r_plain_bits (n : Nat) (a0 : D) (o : Obs) : Fc (n + 1) "plain_bits" [a0] o = endR (denSs (Fc n) Gl lawM m_plain_bits [.v a0, .un] o) := by
  rw [Fc_eq, Fc_eq]; exact call_succ (Q := Q) (i := 14) fn_nodup rfl [a0] o rfl
theorem r_wire_bits (n : Nat) (a0 : D) (o : Obs) : Fc (n + 1) "wire_bits" [a0] o = endR (denSs (Fc n) Gl lawM m_wire_bits [.v a0] o) := by
  rw [Fc_eq, Fc_eq]; exact call_succ (Q := Q) (i := 15) fn_nodup rfl [a0] o rfl
theorem r_head_size (n : Nat) (a0 : D) (o : Obs) : Fc (n + 1) "head_size" [a0] o = endR (denSs (Fc n) Gl lawM m_head_size [.v a0] o) := by
  rw [Fc_eq, Fc_eq]; exact call_succ (Q := Q) (i := 16) fn_nodup rfl [a0] o rfl
theorem r_is_asked_by (n : Nat) (a0 a1 : D) (o : Obs) : Fc (n + 1) "is_asked_by" [a0, a1] o = endR (denSs (Fc n) Gl lawM m_is_asked_by [.v a0, .v a1] o) := by
  rw [Fc_eq, Fc_eq]; exact call_succ (Q := Q) (i := 17) fn_nodup rfl [a0, a1] o rfl
theorem r_due_in_head (n : Nat) (a0 : D) (o : Obs) : Fc (n + 1) "due_in_head" [a0] o = endR (denSs (Fc n) Gl lawM m_due_in_head [.v a0, .un, .un] o) := by
  rw [Fc_eq, Fc_eq]; exact call_succ (Q := Q) (i := 18) fn_nodup rfl [a0] o rfl
theorem r_due_bit (n : Nat) (a0 : D) (o : Obs) : Fc (n + 1) "due_bit" [a0] o = endR (denSs (Fc n) Gl lawM m_due_bit [.v a0, .un, .un, .un] o) := by
  rw [Fc_eq, Fc_eq]; exact call_succ (Q := Q) (i := 19) fn_nodup rfl [a0] o rfl
theorem r_plain_size (n : Nat) (a0 : D) (o : Obs) : Fc (n + 1) "plain_size" [a0] o = endR (denSs (Fc n) Gl lawM m_plain_size [.v a0, .un] o) := by
  rw [Fc_eq, Fc_eq]; exact call_succ (Q := Q) (i := 20) fn_nodup rfl [a0] o rfl
theorem r_frame_of (n : Nat) (a0 : D) (o : Obs) : Fc (n + 1) "frame_of" [a0] o = endR (denSs (Fc n) Gl lawM m_frame_of [.v a0, .un, .un, .un, .un, .un, .un] o) := by
  rw [Fc_eq, Fc_eq]; exact call_succ (Q := Q) (i := 21) fn_nodup rfl [a0] o rfl
theorem r_read_plain (n : Nat) (a0 : D) (o : Obs) : Fc (n + 1) "read_plain" [a0] o = endR (denSs (Fc n) Gl lawM m_read_plain [.v a0, .un, .un, .un, .un, .un] o) := by
  rw [Fc_eq, Fc_eq]; exact call_succ (Q := Q) (i := 22) fn_nodup rfl [a0] o rfl
theorem r_read_wire (n : Nat) (a0 : D) (o : Obs) : Fc (n + 1) "read_wire" [a0] o = endR (denSs (Fc n) Gl lawM m_read_wire [.v a0, .un, .un, .un] o) := by
  rw [Fc_eq, Fc_eq]; exact call_succ (Q := Q) (i := 23) fn_nodup rfl [a0] o rfl
theorem r__law_box (n : Nat) (a0 : D) (o : Obs) : Fc (n + 1) "_law_box" [a0] o = endR (denSs (Fc n) Gl lawM m__law_box [.v a0] o) := by
  rw [Fc_eq, Fc_eq]; exact call_succ (Q := Q) (i := 24) fn_nodup rfl [a0] o rfl
theorem r__law_load (n : Nat) (a0 : D) (o : Obs) : Fc (n + 1) "_law_load" [a0] o = endR (denSs (Fc n) Gl lawM m__law_load [.v a0, .un, .un, .un, .un, .un] o) := by
  rw [Fc_eq, Fc_eq]; exact call_succ (Q := Q) (i := 25) fn_nodup rfl [a0] o rfl
theorem r__law_draw (n : Nat) (a0 a1 : D) (o : Obs) : Fc (n + 1) "_law_draw" [a0, a1] o = endR (denSs (Fc n) Gl lawM m__law_draw [.v a0, .v a1, .un] o) := by
  rw [Fc_eq, Fc_eq]; exact call_succ (Q := Q) (i := 26) fn_nodup rfl [a0, a1] o rfl
theorem r__law_same (n : Nat) (a0 a1 : D) (o : Obs) : Fc (n + 1) "_law_same" [a0, a1] o = endR (denSs (Fc n) Gl lawM m__law_same [.v a0, .v a1, .un] o) := by
  rw [Fc_eq, Fc_eq]; exact call_succ (Q := Q) (i := 27) fn_nodup rfl [a0, a1] o rfl
theorem r__law_bits (n : Nat) (a0 a1 : D) (o : Obs) : Fc (n + 1) "_law_bits" [a0, a1] o = endR (denSs (Fc n) Gl lawM m__law_bits [.v a0, .v a1, .un] o) := by
  rw [Fc_eq, Fc_eq]; exact call_succ (Q := Q) (i := 28) fn_nodup rfl [a0, a1] o rfl
theorem r__law_check (n : Nat) (a0 : D) (o : Obs) : Fc (n + 1) "_law_check" [a0] o = endR (denSs (Fc n) Gl lawM m__law_check [.v a0, .un, .un, .un, .un] o) := by
  rw [Fc_eq, Fc_eq]; exact call_succ (Q := Q) (i := 29) fn_nodup rfl [a0] o rfl
theorem r__law_stuffed (n : Nat) (a0 : D) (o : Obs) : Fc (n + 1) "_law_stuffed" [a0] o = endR (denSs (Fc n) Gl lawM m__law_stuffed [.v a0, .un, .un] o) := by
  rw [Fc_eq, Fc_eq]; exact call_succ (Q := Q) (i := 30) fn_nodup rfl [a0] o rfl
theorem r__law_body (n : Nat) (a0 : D) (o : Obs) : Fc (n + 1) "_law_body" [a0] o = endR (denSs (Fc n) Gl lawM m__law_body [.v a0, .un, .un, .un, .un, .un, .un, .un] o) := by
  rw [Fc_eq, Fc_eq]; exact call_succ (Q := Q) (i := 31) fn_nodup rfl [a0] o rfl
theorem r__law_plain (n : Nat) (a0 : D) (o : Obs) : Fc (n + 1) "_law_plain" [a0] o = endR (denSs (Fc n) Gl lawM m__law_plain [.v a0, .un] o) := by
  rw [Fc_eq, Fc_eq]; exact call_succ (Q := Q) (i := 32) fn_nodup rfl [a0] o rfl
theorem r__law_wire (n : Nat) (a0 : D) (o : Obs) : Fc (n + 1) "_law_wire" [a0] o = endR (denSs (Fc n) Gl lawM m__law_wire [.v a0] o) := by
  rw [Fc_eq, Fc_eq]; exact call_succ (Q := Q) (i := 33) fn_nodup rfl [a0] o rfl
theorem r__law_frame (n : Nat) (a0 a1 : D) (o : Obs) : Fc (n + 1) "_law_frame" [a0, a1] o = endR (denSs (Fc n) Gl lawM m__law_frame [.v a0, .v a1, .un, .un, .un, .un, .un, .un] o) := by
  rw [Fc_eq, Fc_eq]; exact call_succ (Q := Q) (i := 34) fn_nodup rfl [a0, a1] o rfl
theorem r__law_number (n : Nat) (a0 : D) (o : Obs) : Fc (n + 1) "_law_number" [a0] o = endR (denSs (Fc n) Gl lawM m__law_number [.v a0, .un] o) := by
  rw [Fc_eq, Fc_eq]; exact call_succ (Q := Q) (i := 35) fn_nodup rfl [a0] o rfl
theorem r__law_filled (n : Nat) (a0 : D) (o : Obs) : Fc (n + 1) "_law_filled" [a0] o = endR (denSs (Fc n) Gl lawM m__law_filled [.v a0, .un, .un, .un, .un, .un, .un, .un, .un] o) := by
  rw [Fc_eq, Fc_eq]; exact call_succ (Q := Q) (i := 36) fn_nodup rfl [a0] o rfl
theorem r__law_unstuffed (n : Nat) (a0 : D) (o : Obs) : Fc (n + 1) "_law_unstuffed" [a0] o = endR (denSs (Fc n) Gl lawM m__law_unstuffed [.v a0, .un, .un, .un] o) := by
  rw [Fc_eq, Fc_eq]; exact call_succ (Q := Q) (i := 37) fn_nodup rfl [a0] o rfl
theorem r__law_begins (n : Nat) (a0 : D) (o : Obs) : Fc (n + 1) "_law_begins" [a0] o = endR (denSs (Fc n) Gl lawM m__law_begins [.v a0, .un, .un, .un, .un] o) := by
  rw [Fc_eq, Fc_eq]; exact call_succ (Q := Q) (i := 38) fn_nodup rfl [a0] o rfl
theorem r__law_good (n : Nat) (a0 : D) (o : Obs) : Fc (n + 1) "_law_good" [a0] o = endR (denSs (Fc n) Gl lawM m__law_good [.v a0, .un, .un, .un, .un] o) := by
  rw [Fc_eq, Fc_eq]; exact call_succ (Q := Q) (i := 39) fn_nodup rfl [a0] o rfl
theorem r__law_told (n : Nat) (a0 : D) (o : Obs) : Fc (n + 1) "_law_told" [a0] o = endR (denSs (Fc n) Gl lawM m__law_told [.v a0, .un, .un, .un] o) := by
  rw [Fc_eq, Fc_eq]; exact call_succ (Q := Q) (i := 40) fn_nodup rfl [a0] o rfl
theorem r__law_due (n : Nat) (a0 : D) (o : Obs) : Fc (n + 1) "_law_due" [a0] o = endR (denSs (Fc n) Gl lawM m__law_due [.v a0, .un, .un, .un, .un] o) := by
  rw [Fc_eq, Fc_eq]; exact call_succ (Q := Q) (i := 41) fn_nodup rfl [a0] o rfl
theorem r_law (n : Nat) (a0 : D) (o : Obs) : Fc (n + 1) "law" [a0] o = endR (denSs (Fc n) Gl lawM m_law [.v a0, .un, .un, .un, .un, .un, .un, .un, .un, .un, .un, .un, .un, .un, .un, .un, .un, .un] o) := by
  rw [Fc_eq, Fc_eq]; exact call_succ (Q := Q) (i := 42) fn_nodup rfl [a0] o rfl
def cs : List Str := ["BadBits"]
theorem t_BadBits : BadT (inCls (top 27) 0) "bad bits at " := ⟨⟨_, _, _, _, _, _, _, _, _, _, _, _, _, _, _, rfl, rfl⟩, ⟨_, _, rfl, rfl, rfl⟩, by decide +kernel, by decide +kernel, by decide +kernel, by decide +kernel, by decide +kernel, by decide +kernel, by decide +kernel, by decide +kernel, by decide +kernel, by decide +kernel, fun nm qual kV doc pm an cdv ct cc us hl => match us, hl with | [_, _], _ => rfl⟩
theorem ready_mk {PP : Program} {K : PySem.W.Frag} {h : Heap} {mg : Str → Option Value} (X : K.In h) (G : h.Ns mainGlobals mg) (d0 : Known K "is_number" (top 1)) (d1 : Known K "is_frame" (top 10)) (d2 : Known K "bits_of" (top 11)) (d3 : Known K "number_of" (top 12)) (d4 : Known K "turn_bits" (top 13)) (d5 : Known K "head_bits" (top 14)) (d6 : Known K "body_bits" (top 15)) (d7 : Known K "flipped_by" (top 21)) (d8 : Known K "check_step" (top 22)) (d9 : Known K "check_of" (top 23)) (d10 : Known K "check_bits" (top 24)) (d11 : Known K "other_bit" (top 34)) (d12 : Known K "run_behind" (top 35)) (d13 : Known K "stuffed" (top 36)) (d14 : Known K "plain_bits" (top 37)) (d15 : Known K "wire_bits" (top 38)) (d16 : Known K "head_size" (top 39)) (d17 : Known K "is_asked_by" (top 40)) (d18 : Known K "due_in_head" (top 41)) (d19 : Known K "due_bit" (top 42)) (d20 : Known K "plain_size" (top 43)) (d21 : Known K "frame_of" (top 44)) (d22 : Known K "read_plain" (top 45)) (d23 : Known K "read_wire" (top 46)) (d24 : Known K "_law_box" (top 48)) (d25 : Known K "_law_load" (top 49)) (d26 : Known K "_law_draw" (top 50)) (d27 : Known K "_law_same" (top 51)) (d28 : Known K "_law_bits" (top 52)) (d29 : Known K "_law_check" (top 53)) (d30 : Known K "_law_stuffed" (top 54)) (d31 : Known K "_law_body" (top 55)) (d32 : Known K "_law_plain" (top 56)) (d33 : Known K "_law_wire" (top 57)) (d34 : Known K "_law_frame" (top 58)) (d35 : Known K "_law_number" (top 59)) (d36 : Known K "_law_filled" (top 60)) (d37 : Known K "_law_unstuffed" (top 61)) (d38 : Known K "_law_begins" (top 62)) (d39 : Known K "_law_good" (top 63)) (d40 : Known K "_law_told" (top 64)) (d41 : Known K "_law_due" (top 65)) (d42 : Known K "law" (top 66)) (g0 : GC K "STRONG" (.int 0)) (g1 : GC K "WEAK" (.int 1)) (g2 : GC K "MOST_BYTES" (.int 8)) (g3 : GC K "GREATEST_SHORT" (.int 2047)) (g4 : GC K "GREATEST_LONG" (.int 536870911)) (g5 : GC K "LOW_SIZE" (.int 18)) (g6 : GC K "LOW_PARTS" (.int 262144)) (g7 : GC K "CHECK_SIZE" (.int 15)) (g8 : GC K "ROUND" (.int 32768)) (g9 : GC K "HALF" (.int 16384)) (g10 : GC K "POLYNOMIAL" (.int 17817)) (g11 : GC K "MOST_LIKE" (.int 5)) (g12 : GC K "SHORT_HEAD" (.int 19)) (g13 : GC K "LONG_HEAD" (.int 39)) (g14 : GC K "TAIL" (.int 10)) (g15 : GC K "ANSWER" (.int 1)) (b0 : PySem.W.nsIn K mainGlobals "!BadBits" = some none) (b1 : PySem.W.nsIn K mainGlobals "all" = some none) (b2 : PySem.W.nsIn K mainGlobals "bool" = some none) (b3 : PySem.W.nsIn K mainGlobals "int" = some none) (b4 : PySem.W.nsIn K mainGlobals "isinstance" = some none) (b5 : PySem.W.nsIn K mainGlobals "len" = some none) (b6 : PySem.W.nsIn K mainGlobals "list" = some none) (b7 : PySem.W.nsIn K mainGlobals "min" = some none) (b8 : PySem.W.nsIn K mainGlobals "range" = some none) (b9 : PySem.W.nsIn K mainGlobals "str" = some none) (b10 : PySem.W.nsIn K mainGlobals "sum" = some none) (b11 : PySem.W.nsIn K mainGlobals "tuple" = some none) (l0 : ClK PP K "BadBits") :
    Ready PP K mg fs bs cs Q ∧ Known K "law" (top 66) :=
  ⟨⟨⟨l0, trivial⟩, ⟨PySem.W.mg_none_of X G b0, PySem.W.mg_none_of X G b1, PySem.W.mg_none_of X G b2, PySem.W.mg_none_of X G b3, PySem.W.mg_none_of X G b4, PySem.W.mg_none_of X G b5, PySem.W.mg_none_of X G b6, PySem.W.mg_none_of X G b7, PySem.W.mg_none_of X G b8, PySem.W.mg_none_of X G b9, PySem.W.mg_none_of X G b10, PySem.W.mg_none_of X G b11, trivial⟩, ⟨g0.ok X G, g1.ok X G, g2.ok X G, g3.ok X G, g4.ok X G, g5.ok X G, g6.ok X G, g7.ok X G, g8.ok X G, g9.ok X G, g10.ok X G, g11.ok X G, g12.ok X G, g13.ok X G, g14.ok X G, g15.ok X G, trivial⟩, ⟨d0.ok X G d_is_number, d1.ok X G d_is_frame, d2.ok X G d_bits_of, d3.ok X G d_number_of, d4.ok X G d_turn_bits, d5.ok X G d_head_bits, d6.ok X G d_body_bits, d7.ok X G d_flipped_by, d8.ok X G d_check_step, d9.ok X G d_check_of, d10.ok X G d_check_bits, d11.ok X G d_other_bit, d12.ok X G d_run_behind, d13.ok X G d_stuffed, d14.ok X G d_plain_bits, d15.ok X G d_wire_bits, d16.ok X G d_head_size, d17.ok X G d_is_asked_by, d18.ok X G d_due_in_head, d19.ok X G d_due_bit, d20.ok X G d_plain_size, d21.ok X G d_frame_of, d22.ok X G d_read_plain, d23.ok X G d_read_wire, d24.ok X G d__law_box, d25.ok X G d__law_load, d26.ok X G d__law_draw, d27.ok X G d__law_same, d28.ok X G d__law_bits, d29.ok X G d__law_check, d30.ok X G d__law_stuffed, d31.ok X G d__law_body, d32.ok X G d__law_plain, d33.ok X G d__law_wire, d34.ok X G d__law_frame, d35.ok X G d__law_number, d36.ok X G d__law_filled, d37.ok X G d__law_unstuffed, d38.ok X G d__law_begins, d39.ok X G d__law_good, d40.ok X G d__law_told, d41.ok X G d__law_due, d42.ok X G d_law, trivial⟩⟩, d42⟩
end Mp

set_option Elab.async false
set_option linter.all false
set_option maxRecDepth 100000
namespace Mp
open PySem PySem.Spec PyProof.Rows L2
/-! ### the box of drawn numbers -/
structure Bx where
  cells : List Int
  a : Int
  b : Int
def bx (s : Bx) (r : Obs) : Obs := .ls (s.cells.map .int) :: .ls [.obj 0, .int s.a, .int s.b] :: r
@[simp] theorem lsO_bx0 (s : Bx) (r : Obs) : lsO (bx s r) (.obj 0) = some (s.cells.map .int) := (rfl)
@[simp] theorem lsO_bx1 (s : Bx) (r : Obs) : lsO (bx s r) (.obj 1) = some [.obj 0, .int s.a, .int s.b] := (rfl)
@[simp] theorem setO_bx1 (s : Bx) (r : Obs) (a b : Int) : setO (bx s r) (.obj 1) [.obj 0, .int a, .int b] = bx ⟨s.cells, a, b⟩ r := (rfl)
theorem pop_bx (c : Int) (cs : List Int) (a b : Int) (r : Obs) : omD "pop" (bx ⟨c :: cs, a, b⟩ r) (.obj 0) (.int 0) = some (.int c, bx ⟨cs, a, b⟩ r) := by
  have h : seqIndex? 0 ((c :: cs).map D.int).length = some 0 := seqIndex_of (by decide) (by simp)
  have h2 : lsO (bx ⟨c :: cs, a, b⟩ r) (.obj 0) = some ((c :: cs).map D.int) := rfl
  unfold omD
  rw [h2]
  simp only [show (("pop" : String) == "append") = false from by decide, show (("pop" : String) == "extend") = false from by decide, beq_self_eq_true, if_true, Bool.false_eq_true, if_false, h]
  rw [if_pos (by decide)]
  rfl
@[simp] theorem ixN_31 : ixN 3 1 = some 1 := (rfl)
@[simp] theorem ixN_32 : ixN 3 2 = some 2 := (rfl)
theorem bx_ex (s : Bx) (r : Obs) : ∃ x, bx s r = bx x r := ⟨s, rfl⟩
theorem load_ok (s : Bx) (r : Obs) (n : Nat) : ∃ v s', Fc (n + 1) "_law_load" [.obj 1] (bx s r) = .ok (.int v) (bx s' r) := by
  rw [r__law_load]
  obtain ⟨cells, a, b⟩ := s
  cases cells with
  | nil =>
    simp [m__law_load]
    exact bx_ex _ _
  | cons c cs =>
    by_cases h : 0 ≤ c
    · by_cases h2 : 1000000000000000000 ≤ 2 * c
      · simp [m__law_load, pop_bx, h, h2, mulOk_l]
        exact bx_ex _ _
      · simp [m__law_load, pop_bx, h, h2, mulOk_l]
        exact bx_ex _ _
    · by_cases h2 : 1000000000000000000 ≤ -2 * c - 1
      · simp [m__law_load, pop_bx, h, h2, mulOk_l]
        exact bx_ex _ _
      · simp [m__law_load, pop_bx, h, h2, mulOk_l]
        exact bx_ex _ _
theorem draw_ok (s : Bx) (r : Obs) (n : Nat) {many : Int} (h1 : 1 ≤ many) (h2 : many < 1073741824) : ∃ d s', Fc (n + 2) "_law_draw" [.obj 1, .int many] (bx s r) = .ok (.int d) (bx s' r) ∧ 0 ≤ d ∧ d < many := by
  rw [r__law_draw]
  have h0 : ¬ many = 0 := by omega
  have h3 : many.natAbs < 1073741824 := by omega
  have fin : ∀ v : Int, 0 ≤ v.fmod many ∧ v.fmod many < many := fun v => ⟨Int.fmod_nonneg_of_pos _ (by omega), Int.fmod_lt_of_pos _ (by omega)⟩
  obtain ⟨cells, a, b⟩ := s
  by_cases h : a < many
  · obtain ⟨v, s', e⟩ := load_ok ⟨cells, a, b⟩ r n
    obtain ⟨c', a', b'⟩ := s'
    refine ⟨v.fmod many, ⟨c', v.fdiv many, b'⟩, ?_, fin _⟩
    simp [m__law_draw, h, e, h0, h3]
  · refine ⟨a.fmod many, ⟨cells, a.fdiv many, b⟩, ?_, fin _⟩
    simp [m__law_draw, h, h0, h3]
theorem draw_wp {s : Bx} {r : Obs} {n : Nat} {many : Int} {P : D → Obs → Prop} (hn : 2 ≤ n) (h1 : 1 ≤ many) (h2 : many < 1073741824) (h : ∀ d s', 0 ≤ d → d < many → P (.int d) (bx s' r)) : (Fc n "_law_draw" [.obj 1, .int many] (bx s r)).wp P := by
  obtain ⟨k, rfl⟩ : ∃ k, n = k + 2 := ⟨n - 2, by omega⟩
  obtain ⟨d, s', e, p, q⟩ := draw_ok s r k h1 h2
  rw [e]
  exact h d s' p q
theorem box_ok (ns : List Int) (n : Nat) : ∃ s', Fc (n + 1) "_law_box" [.loc ns] [] = .ok (.obj 1) (bx s' []) := by
  rw [r__law_box]
  simp [m__law_box, cut_to]
  exact ⟨⟨ns.take 63, 0, 4711 + ns.length⟩, by simp [bx]⟩
/-- a comprehension of draws -/
theorem draws_ok (n : Nat) {many : Int} (h1 : 1 ≤ many) (h2 : many < 1073741824) (b j : Nat) (env : Env) (hb : ∀ d, getD' ((wipeE env [j]).set j (.v d)) b = some (.obj 1)) (r : Obs) : ∀ (ds acc : List D) (s : Bx), ds.length + acc.length < 16777216 → (∀ d ∈ acc, ∃ i : Int, d = .int i ∧ 0 ≤ i ∧ i < many) →
    ∃ es s', lcD [j] (.nm j) (denC (Fc (n + 2)) Gl .none) (denE (Fc (n + 2)) Gl (.call "_law_draw" (.cons (.var b) (.cons (.lit (.int many)) .nil)))) env ds acc (bx s r) = .ok es (bx s' r) ∧ es.length = acc.length + ds.length ∧ ∀ d ∈ es, ∃ i : Int, d = .int i ∧ 0 ≤ i ∧ i < many
  | [], acc, s, _, ha => ⟨acc, s, rfl, by simp, ha⟩
  | d :: ds, acc, s, hl, ha => by
    obtain ⟨v, s', e, p, q⟩ := draw_ok s r n h1 h2
    simp only [List.length_cons] at hl
    obtain ⟨es, s2, e2, l2, a2⟩ := draws_ok n h1 h2 b j env hb r ds (acc ++ [.int v]) s' (by simp; omega) (fun d hd => by
      rcases List.mem_append.mp hd with hd | hd
      · exact ha d hd
      · simp at hd; exact ⟨v, hd, p, q⟩)
    refine ⟨es, s2, ?_, by rw [l2]; simp; omega, a2⟩
    unfold lcD
    have hl' : acc.length < 16777216 := by omega
    simp [-wipeE_cons, hb, e, hl']
    exact e2
/-! ### _law_same: plain data are as they are -/
theorem lc_same (n : Nat) (o : Obs) (ih : ∀ (d : D) (o : Obs), plainD d = true → depD d < n → Fc n "_law_same" [d, d] o = .ok (.bl true) o) (ds : List D) (x y : D) (hix : ∀ (i : Nat) (e : D), ds[i]? = some e → ixD x (.int i) = some e ∧ ixD y (.int i) = some e) (hds : ∀ e ∈ ds, plainD e = true ∧ depD e < n) (hl : ds.length < 16777216) :
        lcD [2] (.nm 2) (denC (Fc n) Gl .none) (denE (Fc n) Gl (.call "_law_same" (.cons (.ix (.var 0) (.var 2)) (.cons (.ix (.var 1) (.var 2)) .nil)))) [.v x, .v y, .un] (rangeD 0 ds.length 1) [] o = .ok ((rangeD 0 ds.length 1).map fun _ => .bl true) o := by
      have := lcD_map (own := [2]) (tg := .nm 2) (t := denC (Fc n) Gl .none) (x := denE (Fc n) Gl (.call "_law_same" (.cons (.ix (.var 0) (.var 2)) (.cons (.ix (.var 1) (.var 2)) .nil)))) (env := [.v x, .v y, .un]) (o := o) (p := fun _ => true) (f := fun _ => .bl true) (ds := rangeD 0 ds.length 1) (acc := []) (by simp [rangeD_len]; omega) (fun d hd => by
        obtain ⟨i, hi⟩ := List.getElem?_of_mem hd
        obtain ⟨h1, rfl⟩ := rangeD_at hi
        refine ⟨_, rfl, by simp, fun _ => ?_⟩
        have he := List.getElem?_eq_getElem h1
        obtain ⟨a, b⟩ := hix i _ he
        have z := hds _ (List.getElem_mem h1)
        simp [a, b, ih _ o z.1 z.2])
      rw [this, filter_true, List.nil_append]
theorem same_ok : ∀ (n : Nat) (d : D) (o : Obs), plainD d = true → depD d < n → Fc n "_law_same" [d, d] o = .ok (.bl true) o := by
  intro n
  induction n with
  | zero => exact fun _ _ _ h => absurd h (Nat.not_lt_zero _)
  | succ n ih =>
    intro d o hp hd
    rw [r__law_same]
    cases d with
    | non => simp [m__law_same]
    | bl b => simp [m__law_same]
    | int b => simp [m__law_same]
    | str b =>
      have h : okS b = true := by simpa only [plainD] using hp
      simp [m__law_same, h]
    | tup ds =>
      simp only [plainD, Bool.and_eq_true, decide_eq_true_eq] at hp
      simp only [depD] at hd
      have := lc_same n o ih ds (.tup ds) (.tup ds) (fun i e h => ⟨(by rw [ix_tup, atI_nat (List.getElem?_eq_some_iff.mp h).1]; exact h), (by rw [ix_tup, atI_nat (List.getElem?_eq_some_iff.mp h).1]; exact h)⟩) (fun e he => ⟨plainDs_get hp.1 he, by have := depDs_get he; omega⟩) hp.2
      simp [m__law_same, hp.2, this, rangeD_len]
    | lst ds =>
      simp only [plainD, Bool.and_eq_true, decide_eq_true_eq] at hp
      simp only [depD] at hd
      have := lc_same n o ih ds (.lst ds) (.lst ds) (fun i e h => ⟨(by rw [ix_lst, atI_nat (List.getElem?_eq_some_iff.mp h).1]; exact h), (by rw [ix_lst, atI_nat (List.getElem?_eq_some_iff.mp h).1]; exact h)⟩) (fun e he => ⟨plainDs_get hp.1 he, by have := depDs_get he; omega⟩) hp.2
      simp [m__law_same, hp.2, this, rangeD_len]
    | _ => simp [plainD] at hp
/-! ### bits of numbers -/
/-- the bits of x, s of them, the greatest first -/
def bitsN (x s : Nat) : List Int := (List.range s).map fun k => ((x / 2 ^ (s - 1 - k) % 2 : Nat) : Int)
theorem bitsN_len (x s : Nat) : (bitsN x s).length = s := by simp [bitsN]
theorem bitsN_succ (x s : Nat) : bitsN x (s + 1) = bitsN (x / 2) s ++ [((x % 2 : Nat) : Int)] := by
  unfold bitsN
  rw [List.range_succ, List.map_append]
  congr 1
  · apply List.map_congr_left
    intro k hk
    have hk := List.mem_range.mp hk
    have e : s + 1 - 1 - k = (s - 1 - k) + 1 := by omega
    rw [e, Nat.pow_succ, Nat.mul_comm, Nat.div_div_eq_div_mul]
  · simp
theorem modN (x : Nat) : modD (.int (x : Nat)) (.int 2) = some (.int ((x % 2 : Nat) : Int)) := by
  rw [mod_int, if_neg (by decide), Int.fmod_eq_emod_of_nonneg _ (by omega)]; rfl
theorem divA (x : Nat) : augD .FloorDiv (.int (x : Nat)) (.int 2) = some (.int ((x / 2 : Nat) : Int)) := rfl
theorem rev_bits (x s : Nat) : ((List.range s).map fun j => ((x / 2 ^ j % 2 : Nat) : Int)).reverse = bitsN x s := by
  unfold bitsN
  apply List.ext_getElem
  · simp
  · intro i h1 h2
    simp at h1 h2
    rw [List.getElem_reverse]
    simp
theorem bits_of_ok (x s : Nat) (hs : s < 100000) (n : Nat) (o : Obs) : Fc (n + 1) "bits_of" [.int (x : Nat), .int (s : Nat)] o = .ok (.tup ((bitsN x s).map .int)) o := by
  rw [r_bits_of]
  have h1 : s < 16777216 := by omega
  simp [m_bits_of, h1]
  refine endR_seq (forD_wp (fun i env o' => o' = o ∧ ∃ s3, env = [.v (.int ((x / 2 ^ i : Nat) : Int)), .v (.int (s : Nat)), .ol (((List.range i).map fun j => ((x / 2 ^ j % 2 : Nat) : Int)).map .int), s3]) (i := 0) ⟨rfl, .un, by simp⟩ ?_ ?_)
  · rintro i d env o' hi ⟨rfl, s3, rfl⟩
    have hi2 : i < s := by
      have := (List.getElem?_eq_some_iff.mp hi).1
      simpa [rangeD_len] using this
    refine ⟨_, rfl, ?_⟩
    have h2 : i < 16777216 := by omega
    have e1 := modN (x / 2 ^ (0 + i))
    have e2 := divA (x / 2 ^ (0 + i))
    simp only [List.set_cons_succ, List.set_cons_zero]
    generalize hy : x / 2 ^ (0 + i) = y at e1 e2
    have hl : (((List.range (0 + i)).map fun j => ((x / 2 ^ j % 2 : Nat) : Int)).map D.int).length < 16777216 := by simp; omega
    generalize hz : ((List.range (0 + i)).map fun j => ((x / 2 ^ j % 2 : Nat) : Int)).map D.int = z at hl
    simp [w_bits_of_0, e1, e2, hl]
    rw [← hz, ← hy]
    have e3 : x / 2 ^ (i + 1) = x / 2 ^ (0 + i) / 2 := by rw [Nat.zero_add, Nat.div_div_eq_div_mul, Nat.pow_succ]
    have e4 := congrArg (Nat.cast (R := Int)) e3.symm
    refine ⟨by simpa using e4, ?_⟩
    simp [List.range_succ]
  · rintro env o' ⟨rfl, s3, rfl⟩
    rw [rangeD_len, Nat.zero_add]
    have e1 := rev_bits x s
    generalize hz : ((List.range s).map fun j => ((x / 2 ^ j % 2 : Nat) : Int)) = z at e1
    have hl : z.length ≤ 1000000 := by rw [← hz]; simp; omega
    simp [hl, ← List.map_reverse, e1]
@[simp] theorem bin_shl (a b : D) : binD .LShift a b = shlD a b := (rfl)
theorem shl_nat (a : Int) (k : Nat) (ha : a.natAbs < 18446744073709551616) (hk : k ≤ 8000) : shlD (.int a) (.int (k : Nat)) = some (.int (a * 2 ^ k)) := by
  show (if decide (0 ≤ (k : Int) ∧ (k : Int) ≤ 1000000 ∧ a.natAbs < 2 ^ 64) = true then some (D.int (a * 2 ^ (k : Int).toNat)) else none) = _
  rw [if_pos (decide_eq_true ⟨by omega, by omega, ha⟩)]
  rfl
theorem div_pow (x k : Nat) (hk : k ≤ 8000) : divD (.int (x : Nat)) (.int ((2 : Int) ^ k)) = some (.int ((x / 2 ^ k : Nat) : Int)) := by
  have e : ((2 : Int) ^ k) = ((2 ^ k : Nat) : Int) := by push_cast; rfl
  have hp : 0 < 2 ^ k := Nat.two_pow_pos k
  rw [e, div_int, divOk_w (by omega) (by rw [Int.natAbs_natCast, Nat.log2_two_pow]; omega), Int.fdiv_eq_ediv_of_nonneg _ (by omega)]
  rfl
theorem law_bits_ok (x s : Nat) (hs : s < 8000) (n : Nat) (o : Obs) : Fc (n + 1) "_law_bits" [.int (x : Nat), .int (s : Nat)] o = .ok (.lst ((bitsN x s).map .int)) o := by
  rw [r__law_bits]
  have h1 : s < 16777216 := by omega
  have := lcD_map (own := [2]) (tg := .nm 2) (t := denC (Fc n) Gl .none) (x := denE (Fc n) Gl (.bin .Sub (.bin .FloorDiv (.var 0) (.bin .LShift (.lit (.int 1)) (.bin .Sub (.bin .Sub (.var 1) (.lit (.int 1))) (.var 2)))) (.bin .Mult (.bin .FloorDiv (.var 0) (.bin .LShift (.lit (.int 2)) (.bin .Sub (.bin .Sub (.var 1) (.lit (.int 1))) (.var 2)))) (.lit (.int 2))))) (env := [.v (.int (x : Nat)), .v (.int (s : Nat)), .un]) (o := o) (p := fun _ => true)
    (f := fun d => match d with | .int i => .int ((x / 2 ^ (s - 1 - i.toNat) % 2 : Nat) : Int) | _ => .non) (ds := rangeD 0 s 1) (acc := []) (by simp [rangeD_len]; omega) (fun d hd => by
      obtain ⟨i, hi⟩ := List.getElem?_of_mem hd
      obtain ⟨h1, rfl⟩ := rangeD_at hi
      refine ⟨_, rfl, by simp, fun _ => ?_⟩
      have z : (0 : Int) + (i : Nat) * 1 = (i : Nat) := by omega
      rw [z]
      obtain ⟨k, hk⟩ : ∃ k : Nat, k = s - 1 - i := ⟨_, rfl⟩
      have hk2 : (s : Int) - 1 - (i : Int) = (k : Nat) := by omega
      have s1 := shl_nat 1 k (by decide) (by omega)
      have s2 := shl_nat 2 k (by decide) (by omega)
      have d1 := div_pow x k (by omega)
      have d2 := div_pow x (k + 1) (by omega)
      have e2 : (2 : Int) * 2 ^ k = 2 ^ (k + 1) := by rw [Int.pow_succ, Int.mul_comm]
      have e3 : x / 2 ^ (k + 1) = x / 2 ^ k / 2 := by rw [Nat.pow_succ, Nat.div_div_eq_div_mul]
      rw [Int.one_mul] at s1
      rw [e2] at s2
      generalize hy : x / 2 ^ k = y at d1 e3
      rw [e3] at d2
      generalize hq : (2 : Int) ^ k = q at s1 d1
      generalize hq2 : (2 : Int) ^ (k + 1) = q2 at s2 d2
      simp only [Int.toNat_natCast]
      rw [← hk, hy]
      have fin : (y : Int) - (y / 2 : Nat) * 2 = ((y % 2 : Nat) : Int) := by omega
      have m1 : mulOk ((y / 2 : Nat) : Int) 2 = true := mulOk_r (by decide)
      simp [-div_int, hk2, s1, s2, d1]
      simp [-div_int, d2, m1]
      omega)
  have e : (rangeD 0 s 1).map (fun d => match d with | .int i => D.int ((x / 2 ^ (s - 1 - i.toNat) % 2 : Nat) : Int) | _ => .non) = (bitsN x s).map .int := by
    unfold rangeD bitsN
    rw [List.map_map, List.map_map]
    apply List.map_congr_left
    intro i _
    show D.int ((x / 2 ^ (s - 1 - ((0 : Int) + (i : Nat) * 1).toNat) % 2 : Nat) : Int) = _
    rw [show ((0 : Int) + (i : Nat) * 1).toNat = i from by omega]
    rfl
  rw [filter_true, List.nil_append, e] at this
  simp [m__law_bits, h1, this]
/-! ### checks: a register of fifteen bits -/
def cstep (r : Nat) (b : Bool) : Nat := if (b != r.testBit 14) then 2 * r % 32768 ^^^ 17817 else 2 * r % 32768
def crc (r : Nat) (bs : List Bool) : Nat := bs.foldl cstep r
@[simp] theorem crc_nil (r : Nat) : crc r [] = r := (rfl)
@[simp] theorem crc_cons (r : Nat) (b : Bool) (bs : List Bool) : crc r (b :: bs) = crc (cstep r b) bs := (rfl)
theorem crc_app (r : Nat) (a b : List Bool) : crc r (a ++ b) = crc (crc r a) b := by unfold crc; rw [List.foldl_append]
theorem cstep_lt (r : Nat) (b : Bool) : cstep r b < 32768 := by
  have h : 2 * r % 32768 < 2 ^ 15 := Nat.mod_lt _ (by decide)
  unfold cstep
  split
  · exact Nat.xor_lt_two_pow h (by decide)
  · exact h
theorem crc_lt {r : Nat} (h : r < 32768) : ∀ bs : List Bool, crc r bs < 32768
  | [] => h
  | b :: bs => crc_lt (cstep_lt r b) bs
theorem dbl_xor (r s : Nat) : 2 * (r ^^^ s) % 32768 = (2 * r % 32768) ^^^ (2 * s % 32768) := by
  have e : ∀ x : Nat, 2 * x = x <<< 1 := fun x => by rw [Nat.shiftLeft_eq]; omega
  rw [e, e, e, Nat.shiftLeft_xor_distrib]
  exact Nat.xor_mod_two_pow (n := 15)
theorem cstep_xor (r s : Nat) (a b : Bool) : cstep (r ^^^ s) (a != b) = cstep r a ^^^ cstep s b := by
  unfold cstep
  rw [dbl_xor, Nat.testBit_xor]
  have key : ∀ p q x y : Bool, ((p != q) != (x ^^ y)) = ((p != x) != (q != y)) := by decide
  rw [key]
  cases a != r.testBit 14 <;> cases b != s.testBit 14 <;> simp
  · rw [Nat.xor_assoc]
  · rw [Nat.xor_assoc, Nat.xor_assoc]; congr 1; exact Nat.xor_comm _ _
  · rw [Nat.xor_assoc, Nat.xor_comm 17817, Nat.xor_assoc, Nat.xor_self, Nat.xor_zero]
theorem crc_xor : ∀ (as bs : List Bool) (r s : Nat), as.length = bs.length → crc (r ^^^ s) (List.zipWith (· != ·) as bs) = crc r as ^^^ crc s bs
  | [], [], r, s, _ => rfl
  | a :: as, b :: bs, r, s, h => by
    rw [List.zipWith_cons_cons, crc_cons, crc_cons, crc_cons, cstep_xor]
    exact crc_xor as bs _ _ (by simpa using h)
  | [], _ :: _, _, _, h => by cases h
  | _ :: _, [], _, _, h => by cases h
theorem bit14 {r : Nat} (h : r < 32768) : r.testBit 14 = decide (16384 ≤ r) := by
  rw [Nat.testBit_eq_decide_div_mod_eq]
  exact decide_eq_decide.mpr ⟨fun z => by omega, fun z => by omega⟩
/-- where the register is even behind a step, nothing was flipped -/
theorem cstep_even {r : Nat} {b : Bool} (h : cstep r b % 2 = 0) : b = r.testBit 14 := by
  unfold cstep at h
  split at h
  · have : (2 * r % 32768 ^^^ 17817) % 2 = 1 := Nat.xor_mod_two_eq_one.mpr (by omega)
    omega
  · rename_i c
    cases b <;> cases q : r.testBit 14 <;> simp_all
theorem cstep_same {r : Nat} {b : Bool} (h : b = r.testBit 14) : cstep r b = 2 * r % 32768 := by
  unfold cstep
  rw [h]; simp
/-- the register that some bits bring to nought -/
def topR : List Bool → Nat
  | [] => 0
  | b :: c => (if b then 16384 else 0) + topR c / 2
theorem topR_lt : ∀ c : List Bool, topR c < 32768
  | [] => by decide
  | b :: c => by
    have := topR_lt c
    unfold topR
    split <;> omega
theorem topR_even : ∀ (c : List Bool) (k : Nat), c.length + k ≤ 15 → 2 ^ k ∣ topR c
  | [], k, _ => ⟨0, rfl⟩
  | b :: c, k, h => by
    obtain ⟨q, hq⟩ := topR_even c (k + 1) (by simp at h; omega)
    have e : topR c / 2 = 2 ^ k * q := by rw [hq, Nat.pow_succ]; rw [show 2 ^ k * 2 * q = 2 * (2 ^ k * q) from by ac_rfl]; omega
    unfold topR
    rw [e]
    split
    · refine Nat.dvd_add ?_ ⟨q, rfl⟩
      have hk : k ≤ 14 := by simp at h; omega
      exact (Nat.pow_dvd_pow 2 hk : 2 ^ k ∣ 2 ^ 14)
    · exact ⟨q, by rw [Nat.zero_add]⟩
theorem crc_zero : ∀ (c : List Bool) {r : Nat}, c.length ≤ 15 → r < 32768 → (crc r c = 0 ↔ r = topR c)
  | [], r, _, _ => Iff.rfl
  | b :: c, r, h, hr => by
    have hc : c.length ≤ 14 := by simpa using h
    obtain ⟨m, hm⟩ := topR_even c 1 (by omega)
    have hm : topR c = 2 * m := by simpa using hm
    have hl := topR_lt c
    rw [crc_cons, crc_zero c (by omega) (cstep_lt r b)]
    show _ ↔ r = (if b then 16384 else 0) + topR c / 2
    constructor
    · intro e
      have hb := cstep_even (r := r) (b := b) (by omega)
      rw [cstep_same hb] at e
      rw [bit14 hr] at hb
      subst hb
      by_cases q : 16384 ≤ r
      · simp [q]; omega
      · simp [q]; omega
    · intro e
      have hb : b = r.testBit 14 := by
        rw [bit14 hr]
        cases b
        · simp at e ⊢; omega
        · simp at e ⊢; omega
      rw [cstep_same hb]
      cases b
      · simp at e; omega
      · simp at e; omega
/-- the register's first bits -/
def rbits (r m : Nat) : List Bool := (List.range m).map fun k => r.testBit (14 - k)
theorem rbits_succ (r m : Nat) (h : m ≤ 14) : rbits r (m + 1) = r.testBit 14 :: rbits (2 * r % 32768) m := by
  unfold rbits
  rw [List.range_succ_eq_map, List.map_cons, List.map_map]
  congr 1
  apply List.map_congr_left
  intro k hk
  have hk := List.mem_range.mp hk
  show r.testBit (14 - (k + 1)) = (2 * r % 2 ^ 15).testBit (14 - k)
  rw [Nat.testBit_mod_two_pow]
  have e : 14 - k = (14 - (k + 1)) + 1 := by omega
  rw [e, Nat.testBit_succ]
  have e2 : 2 * r / 2 = r := by omega
  rw [e2]
  simp
  intro _; omega
theorem crc_rbits : ∀ (m r : Nat), m ≤ 15 → crc r (rbits r m) = 2 ^ m * r % 32768 ∨ (m = 0 ∧ crc r (rbits r m) = r)
  | 0, r, _ => .inr ⟨rfl, rfl⟩
  | m + 1, r, h => by
    refine .inl ?_
    rw [rbits_succ r m (by omega), crc_cons, cstep_same rfl]
    rcases crc_rbits m (2 * r % 32768) (by omega) with e | ⟨rfl, e⟩
    · rw [e, Nat.mul_mod, Nat.mod_mod, ← Nat.mul_mod, Nat.pow_succ, Nat.mul_assoc]
    · rw [e]
theorem crc_own (r : Nat) : crc r (rbits r 15) = 0 := by
  rcases crc_rbits 15 r (Nat.le_refl _) with e | ⟨h, _⟩
  · rw [e]; exact Nat.mul_mod_right ..
  · cases h
/-! what is flipped shows -/
theorem crc_falses (r : Nat) (h : r < 32768) : ∀ j : Nat, crc r (List.replicate j false) = 0 → r = 0
  | 0, e => e
  | j + 1, e => by
    rw [List.replicate_succ, crc_cons] at e
    have z := crc_falses _ (cstep_lt r false) j e
    have hb := cstep_even (r := r) (b := false) (by rw [z])
    rw [cstep_same hb] at z
    rw [bit14 h] at hb
    have : ¬ 16384 ≤ r := fun q => by rw [decide_eq_true q] at hb; cases hb
    omega
theorem crc_0falses : ∀ i : Nat, crc 0 (List.replicate i false) = 0
  | 0 => rfl
  | i + 1 => by rw [List.replicate_succ, crc_cons]; exact crc_0falses i
theorem crc_core {core : List Bool} (h : crc 0 core ≠ 0) (i j : Nat) : crc 0 (List.replicate i false ++ core ++ List.replicate j false) ≠ 0 := by
  rw [crc_app, crc_app, crc_0falses]
  exact fun e => h (crc_falses _ (crc_lt (by decide) core) j e)
theorem crc_burst {c : List Bool} (h : c.length ≤ 14) : crc 0 (true :: c) ≠ 0 := fun e => by
  have := (crc_zero (true :: c) (by simpa using h) (by decide)).mp e
  unfold topR at this
  simp at this
  omega
theorem crc_two : ∀ d < 60, crc 0 (true :: (List.replicate d false ++ [true])) ≠ 0 := by decide +kernel
/-! ### checks, by the text -/
def b2i (b : Bool) : Int := if b then 1 else 0
def bI (bs : List Bool) : List D := bs.map fun b => .int (b2i b)
@[simp] theorem bI_len (bs : List Bool) : (bI bs).length = bs.length := by simp [bI]
theorem bI_app (a b : List Bool) : bI (a ++ b) = bI a ++ bI b := by simp [bI]
theorem bI_get {bs : List Bool} {i : Nat} {b : Bool} (h : bs[i]? = some b) : (bI bs)[i]? = some (.int (b2i b)) := by simp [bI, h]
theorem bI_at {bs : List Bool} {i : Nat} {b : Bool} (h : bs[i]? = some b) : atI (bI bs) (i : Nat) = some (.int (b2i b)) := by
  rw [atI_nat (by rw [bI_len]; exact (List.getElem?_eq_some_iff.mp h).1)]
  exact bI_get h
theorem bitsN_r (r m : Nat) (h : m ≤ 15) : (bitsN r 15).map D.int = bI (rbits r 15) := by
  unfold bitsN bI rbits
  rw [List.map_map, List.map_map]
  apply List.map_congr_left
  intro k _
  show D.int ((r / 2 ^ (14 - k) % 2 : Nat) : Int) = .int (b2i (r.testBit (14 - k)))
  rw [Nat.testBit_eq_decide_div_mod_eq]
  congr 1
  unfold b2i
  by_cases q : r / 2 ^ (14 - k) % 2 = 1
  · rw [q]; rfl
  · have : r / 2 ^ (14 - k) % 2 = 0 := by omega
    rw [this]; rfl
@[simp] theorem aug_add (a b : Int) : augD .Add (.int a) (.int b) = some (.int (a + b)) := (rfl)
theorem divN (x : Nat) : divD (.int (x : Nat)) (.int 2) = some (.int ((x / 2 : Nat) : Int)) := by
  rw [div_int, divOk_s (by decide) (by decide), Int.fdiv_eq_ediv_of_nonneg _ (by decide)]; rfl
theorem flipped_ok (x y n : Nat) (o : Obs) (hx : x < 32768) (hy : y < 32768) : Fc (n + 1) "flipped_by" [.int (x : Nat), .int (y : Nat)] o = .ok (.int ((x ^^^ y : Nat) : Int)) o := by
  rw [r_flipped_by]
  have hsm : smallI 15 = true := by decide
  simp [m_flipped_by, hsm]
  refine endR_seq (forD_wp (fun i env o' => o' = o ∧ ∃ s2, env = [.v (.int ((x / 2 ^ i : Nat) : Int)), .v (.int ((y / 2 ^ i : Nat) : Int)), s2, .v (.int (((x ^^^ y) % 2 ^ i : Nat) : Int)), .v (.int ((2 ^ i : Nat) : Int))]) (i := 0) ⟨rfl, .un, by simp [Nat.mod_one]⟩ ?_ ?_)
  · rintro i d env o' hi ⟨rfl, s2, rfl⟩
    refine ⟨_, rfl, ?_⟩
    rw [Nat.zero_add]
    have e1 : x / 2 ^ (i + 1) = x / 2 ^ i / 2 := by rw [Nat.div_div_eq_div_mul, Nat.pow_succ]
    have e2 : y / 2 ^ (i + 1) = y / 2 ^ i / 2 := by rw [Nat.div_div_eq_div_mul, Nat.pow_succ]
    have e3 : (x ^^^ y) % 2 ^ (i + 1) = (x ^^^ y) % 2 ^ i + 2 ^ i * ((x / 2 ^ i ^^^ y / 2 ^ i) % 2) := by
      rw [Nat.mod_pow_succ, Nat.xor_div_two_pow]
    have e4 : 2 ^ (i + 1) = 2 * 2 ^ i := by rw [Nat.pow_succ, Nat.mul_comm]
    simp only [List.set_cons_succ, List.set_cons_zero]
    rw [e1, e2, e3, e4]
    have m1 := modN (x / 2 ^ i)
    have m2 := modN (y / 2 ^ i)
    have d1 := divN (x / 2 ^ i)
    have d2 := divN (y / 2 ^ i)
    generalize x / 2 ^ i = a at *
    generalize y / 2 ^ i = b at *
    generalize (x ^^^ y) % 2 ^ i = f at *
    generalize 2 ^ i = z at *
    have m3 : mulOk 2 (z : Int) = true := mulOk_l (by decide)
    by_cases q : a % 2 = b % 2
    · have q2 : (a ^^^ b) % 2 = 0 := by
        have := Nat.xor_mod_two_eq_one (a := a) (b := b)
        have : ¬ (a ^^^ b) % 2 = 1 := fun w => (this.mp w) ⟨fun _ => by omega, fun _ => by omega⟩
        omega
      have q3 : (a : Int) % 2 = (b : Int) % 2 := by omega
      rw [q2]
      simp [-div_int, w_flipped_by_0, m1, m2, d1, d2, m3, q3]
    · have q2 : (a ^^^ b) % 2 = 1 := Nat.xor_mod_two_eq_one.mpr fun w => q (by omega)
      have q3 : ¬ (a : Int) % 2 = (b : Int) % 2 := by omega
      rw [q2]
      simp [-div_int, w_flipped_by_0, m1, m2, d1, d2, m3, q3]
  · rintro env o' ⟨rfl, s2, rfl⟩
    have e : (x ^^^ y) % 2 ^ (0 + (rangeD 0 15 1).length) = x ^^^ y := by
      rw [rangeD_len, Nat.zero_add]
      exact Nat.mod_eq_of_lt (Nat.xor_lt_two_pow (n := 15) hx hy)
    rw [e]
    simp
theorem step_ok (r : Nat) (b : Bool) (n : Nat) (o : Obs) (hr : r < 32768) : Fc (n + 2) "check_step" [.int (r : Nat), .int (b2i b)] o = .ok (.int ((cstep r b : Nat) : Int)) o := by
  rw [r_check_step]
  have d1 : (r : Int).fdiv 16384 = ((r / 16384 : Nat) : Int) := by rw [Int.fdiv_eq_ediv_of_nonneg _ (by decide)]; rfl
  have d2 : ((r : Int) * 2).fmod 32768 = ((2 * r % 32768 : Nat) : Int) := by
    rw [Int.fmod_eq_emod_of_nonneg _ (by decide)]; omega
  have hf := flipped_ok (2 * r % 32768) 17817 n o (Nat.mod_lt _ (by decide)) (by decide)
  unfold cstep
  rw [bit14 hr]
  generalize hz : 2 * r % 32768 = z at *
  have dk : divOk 16384 = true := by decide
  by_cases q : 16384 ≤ r
  · have d3 : r / 16384 = 1 := by omega
    rw [d3] at d1
    cases b
    · simp at d1 hf
      simp [m_check_step, b2i, d1, d2, dk, hf, q]
    · simp at d1 hf
      simp [m_check_step, b2i, d1, d2, dk, hf, q]
  · have d3 : r / 16384 = 0 := by omega
    rw [d3] at d1
    cases b
    · simp at d1 hf
      simp [m_check_step, b2i, d1, d2, dk, hf, q]
    · simp at d1 hf
      simp [m_check_step, b2i, d1, d2, dk, hf, q]
theorem check_of_ok (X : D) (bs : List Bool) (hX : seqD X = some (bI bs)) (n : Nat) (o : Obs) : Fc (n + 3) "check_of" [X] o = .ok (.int ((crc 0 bs : Nat) : Int)) o := by
  rw [r_check_of]
  simp [m_check_of, hX]
  refine endR_seq (forD_wp (fun i env o' => o' = o ∧ ∃ s2, env = [.v X, .v (.int ((crc 0 (bs.take i) : Nat) : Int)), s2]) (i := 0) ⟨rfl, .un, by simp⟩ ?_ ?_)
  · rintro i d env o' hi ⟨rfl, s2, rfl⟩
    have hi2 : i < bs.length := by
      have := (List.getElem?_eq_some_iff.mp hi).1
      simpa using this
    have hb : bs[i]? = some bs[i] := List.getElem?_eq_getElem hi2
    rw [bI_get hb] at hi
    cases hi
    refine ⟨_, rfl, ?_⟩
    have e := step_ok (crc 0 (bs.take i)) bs[i] n o' (crc_lt (by decide) _)
    have e2 : cstep (crc 0 (bs.take i)) bs[i] = crc 0 (bs.take (i + 1)) := by
      rw [List.take_add_one, hb, crc_app]; rfl
    rw [e2] at e
    simp [w_check_of_0, e]
  · rintro env o' ⟨rfl, s2, rfl⟩
    simp
theorem check_bits_ok (X : D) (bs : List Bool) (hX : seqD X = some (bI bs)) (n : Nat) (o : Obs) : Fc (n + 4) "check_bits" [X] o = .ok (.tup (bI (rbits (crc 0 bs) 15))) o := by
  rw [r_check_bits]
  have e1 := check_of_ok X bs hX n o
  have e2 := bits_of_ok (crc 0 bs) 15 (by decide) (n + 2) o
  rw [bitsN_r _ 15 (Nat.le_refl _)] at e2
  simp at e2
  simp [m_check_bits, e1, e2]
/-! ### the division, step by step -/
def polyB : List Bool := true :: rbits 17817 15
def rbit (r j : Nat) : Bool := decide (j < 15) && r.testBit (14 - j)
theorem poly_get (j : Nat) : polyB[j + 1]? = if j < 15 then some (rbit 17817 j) else none := by
  show (rbits 17817 15)[j]? = _
  unfold rbits rbit
  by_cases h : j < 15
  · simp [h]
  · simp [h]
def aug (bs : List Bool) (i : Nat) : Bool := bs.getD i false
def midB (R : List Bool) (k : Nat) : List Bool := (List.range 16).map fun j => (R.getD (k + j) false != polyB.getD j false)
def divB (R : List Bool) (k : Nat) : List Bool := if R.getD k false then R.take k ++ midB R k ++ R.drop (k + 16) else R
structure DivI (bs R : List Bool) (k : Nat) : Prop where
  len : R.length = bs.length + 15
  at_ : ∀ i, k ≤ i → i < bs.length + 15 → R[i]? = some (aug bs i != rbit (crc 0 (bs.take k)) (i - k))
theorem rbit_step (r : Nat) (b : Bool) (j : Nat) : rbit (cstep r b) j = (rbit r (j + 1) != ((b != r.testBit 14) && rbit 17817 j)) := by
  unfold rbit cstep
  have e : ∀ z : Nat, z ≤ 14 → (2 * r % 2 ^ 15).testBit (14 - j) = (decide (j < 14) && r.testBit (14 - (j + 1))) ∨ 15 ≤ j := fun _ _ => by
    by_cases h : j < 14
    · left
      rw [Nat.testBit_mod_two_pow]
      have e1 : 14 - j = (14 - (j + 1)) + 1 := by omega
      rw [e1, Nat.testBit_succ, show 2 * r / 2 = r from by omega]
      simp [h]
      intro _; omega
    · by_cases h2 : j = 14
      · left
        subst h2
        rw [Nat.testBit_mod_two_pow]
        simp [Nat.testBit_eq_decide_div_mod_eq]
      · right; omega
  by_cases h : j < 15
  · rcases e 0 (by decide) with e | e
    · have e : (2 * r % 32768).testBit (14 - j) = (decide (j < 14) && r.testBit (14 - (j + 1))) := e
      have h2 : (decide (j + 1 < 15)) = decide (j < 14) := decide_eq_decide.mpr ⟨fun z => by omega, fun z => by omega⟩
      rw [h2]
      cases (b != r.testBit 14)
      · simp [h, e]
      · simp [h, e, Nat.testBit_xor]
    · omega
  · have h2 : ¬ j + 1 < 15 := by omega
    simp [h, h2]
theorem DivI.step {bs R : List Bool} {k : Nat} (I : DivI bs R k) (hk : k < bs.length) : DivI bs (divB R k) (k + 1) := by
  obtain ⟨hl, ha⟩ := I
  have hb : bs[k]? = some bs[k] := List.getElem?_eq_getElem hk
  have ec : crc 0 (bs.take (k + 1)) = cstep (crc 0 (bs.take k)) bs[k] := by
    rw [List.take_add_one, hb, crc_app]; rfl
  have hRk : R.getD k false = (bs[k] != (crc 0 (bs.take k)).testBit 14) := by
    rw [List.getD_eq_getElem?_getD, ha k (Nat.le_refl _) (by omega)]
    unfold aug rbit
    rw [List.getD_eq_getElem?_getD, hb]
    simp
  rw [show divB R k = if (bs[k] != (crc 0 (bs.take k)).testBit 14) then R.take k ++ midB R k ++ R.drop (k + 16) else R from by unfold divB; rw [hRk]]
  cases ht : (bs[k] != (crc 0 (bs.take k)).testBit 14) with
  | false =>
    refine ⟨hl, fun i h1 h2 => ?_⟩
    simp only [Bool.false_eq_true, if_false]
    rw [ec, rbit_step, ht, ha i (by omega) h2, show i - k = i - (k + 1) + 1 from by omega]
    simp
  | true =>
    simp only [if_true]
    have lm : (midB R k).length = 16 := by simp [midB]
    have lt : (R.take k).length = k := by simp; omega
    refine ⟨by simp [lm]; omega, fun i h1 h2 => ?_⟩
    rw [ec, rbit_step, ht]
    have hi := ha i (by omega) h2
    rw [show i - k = i - (k + 1) + 1 from by omega] at hi
    rw [List.append_assoc, List.getElem?_append_right (by omega), lt]
    by_cases c : i - k < 16
    · rw [List.getElem?_append_left (by omega)]
      unfold midB
      rw [List.getElem?_map, List.getElem?_range c]
      obtain ⟨j, hj⟩ : ∃ j, i - k = j + 1 := ⟨i - k - 1, by omega⟩
      have hp := poly_get j
      rw [if_pos (by omega)] at hp
      simp only [Option.map_some]
      rw [show k + (i - k) = i from by omega, List.getD_eq_getElem?_getD, hi, hj, List.getD_eq_getElem?_getD, hp, show i - (k + 1) = j from by omega]
      simp
    · rw [List.getElem?_append_right (by omega), lm, List.getElem?_drop, show k + 16 + (i - k - 16) = i from by omega, hi]
      have : rbit 17817 (i - (k + 1)) = false := by unfold rbit; rw [decide_eq_false (by omega)]; rfl
      rw [this]
      simp
theorem DivI.start (bs : List Bool) : DivI bs (bs ++ List.replicate 15 false) 0 := by
  refine ⟨by simp, fun i _ h2 => ?_⟩
  have e : rbit (crc 0 (bs.take 0)) (i - 0) = false := by
    unfold rbit
    show (decide (i - 0 < 15) && (0 : Nat).testBit _) = false
    simp
  rw [e]
  unfold aug
  by_cases h : i < bs.length
  · rw [List.getElem?_append_left h, List.getD_eq_getElem?_getD, List.getElem?_eq_getElem h]; simp
  · rw [List.getElem?_append_right (by omega), List.getElem?_replicate, if_pos (by omega), List.getD_eq_getElem?_getD, List.getElem?_eq_none (by omega)]; rfl
theorem DivI.fin {bs R : List Bool} (I : DivI bs R bs.length) : R.drop bs.length = rbits (crc 0 bs) 15 := by
  apply List.ext_getElem?
  intro i
  unfold rbits
  rw [List.getElem?_drop]
  by_cases h : i < 15
  · rw [I.at_ _ (by omega) (by omega), List.getElem?_map, List.getElem?_range h]
    have : aug bs (bs.length + i) = false := by
      unfold aug
      rw [List.getD_eq_getElem?_getD, List.getElem?_eq_none (by omega)]; rfl
    rw [this, List.take_length, show bs.length + i - bs.length = i from by omega]
    unfold rbit
    simp [h]
  · rw [List.getElem?_eq_none (by have := I.len; omega), List.getElem?_eq_none (by simp; omega)]
theorem poly_bits : (D.int 1 :: (bitsN 17817 15).map .int) = bI polyB := by
  rw [bitsN_r _ 15 (Nat.le_refl _)]; rfl
theorem b2i_ne (a b : Bool) : (if b2i b = 1 then 1 - b2i a else b2i a) = b2i (a != b) := by cases a <;> cases b <;> rfl
theorem cutI_to (bs : List Bool) (k : Nat) : cutD (bI bs) none (some (k : Nat)) = bI (bs.take k) := by
  rw [cut_to (by omega)]; simp [bI, List.map_take]
theorem cutI_from (bs : List Bool) (k : Nat) : cutD (bI bs) (some (k : Nat)) none = bI (bs.drop k) := by
  rw [cut_from (by omega)]; simp [bI, List.map_drop]
theorem mid_ok (n : Nat) (o : Obs) (e0 e4 : Sl) (R : List Bool) (k : Nat) (hk : k + 16 ≤ R.length) :
    lcD [4] (.nm 4) (denC (Fc n) Gl .none) (denE (Fc n) Gl (.ife (.cmp .Eq (.ix (.var 2) (.var 4)) (.lit (.int 1))) (.bin .Sub (.lit (.int 1)) (.ix (.var 3) (.bin .Add (.var 1) (.var 4)))) (.ix (.var 3) (.bin .Add (.var 1) (.var 4))))) [e0, .v (.int (k : Nat)), .v (.lst (bI polyB)), .v (.lst (bI R)), e4] (rangeD 0 16 1) [] o = .ok (bI (midB R k)) o := by
  have := lcD_map (own := [4]) (tg := .nm 4) (t := denC (Fc n) Gl .none) (x := denE (Fc n) Gl (.ife (.cmp .Eq (.ix (.var 2) (.var 4)) (.lit (.int 1))) (.bin .Sub (.lit (.int 1)) (.ix (.var 3) (.bin .Add (.var 1) (.var 4)))) (.ix (.var 3) (.bin .Add (.var 1) (.var 4))))) (env := [e0, .v (.int (k : Nat)), .v (.lst (bI polyB)), .v (.lst (bI R)), e4]) (o := o) (p := fun _ => true)
    (f := fun d => match d with | .int i => .int (b2i (R.getD (k + i.toNat) false != polyB.getD i.toNat false)) | _ => .non) (ds := rangeD 0 16 1) (acc := []) (by simp [rangeD_len]) (fun d hd => by
      obtain ⟨j, hj⟩ := List.getElem?_of_mem hd
      obtain ⟨hj2, rfl⟩ := rangeD_at hj
      have z : (0 : Int) + (j : Nat) * 1 = (j : Nat) := by omega
      rw [z]
      refine ⟨_, rfl, by simp, fun _ => ?_⟩
      have hR : R[k + j]? = some R[k + j] := List.getElem?_eq_getElem (by omega)
      have hP : polyB[j]? = some (polyB[j]'(by show j < 16; exact hj2)) := List.getElem?_eq_getElem _
      have a1 := bI_at hR
      have a2 := bI_at hP
      simp only [Int.toNat_natCast]
      rw [List.getD_eq_getElem?_getD, List.getD_eq_getElem?_getD, hR, hP]
      simp only [Option.getD_some]
      rw [← b2i_ne]
      simp at a1
      by_cases q : b2i (polyB[j]'(by show j < 16; exact hj2)) = 1
      · simp [a1, a2, q]
      · simp [a1, a2, q])
  rw [this, filter_true, List.nil_append]
  congr 1
theorem div_body (n : Nat) (o : Obs) (e0 e4 : Sl) (R : List Bool) (k : Nat) (hk : k + 16 ≤ R.length) (hl : R.length < 100000) :
    denSs (Fc n) Gl lawM w__law_check_0 [e0, .v (.int (k : Nat)), .v (.lst (bI polyB)), .v (.lst (bI R)), e4] o = .nx [e0, .v (.int (k : Nat)), .v (.lst (bI polyB)), .v (.lst (bI (divB R k))), e4] o := by
  have hR : R[k]? = some R[k] := List.getElem?_eq_getElem (by omega)
  have a1 := bI_at hR
  have em := mid_ok n o e0 e4 R k hk
  have e1 := cutI_to R k
  have e2 := cutI_from R (k + 16)
  simp at e2
  have hsm : smallI 16 = true := by decide
  have z : (16 : Int).toNat = 16 := rfl
  have lm : (midB R k).length = 16 := by simp [midB]
  have h1 : k + 16 ≤ 16777216 := by omega
  have h2 : k + 16 + (R.length - (k + 16)) ≤ 16777216 := by omega
  have h3 : min k R.length = k := by omega
  unfold divB
  rw [List.getD_eq_getElem?_getD, hR]
  simp only [Option.getD_some]
  cases q : R[k]
  · rw [q] at a1
    simp [w__law_check_0, a1, b2i]
  · rw [q] at a1
    simp [w__law_check_0, a1, b2i, hsm, z, em, e1, e2, lm, h1, h2, h3, bI_app]
theorem law_check_ok (X : D) (bs : List Bool) (hX : biD "list" [X] = some (.lst (bI bs))) (hX2 : biD "len" [X] = some (.int bs.length)) (hl : bs.length < 90000) (n : Nat) (o : Obs) : Fc (n + 2) "_law_check" [X] o = .ok (.lst (bI (rbits (crc 0 bs) 15))) o := by
  rw [r__law_check]
  have e1 := law_bits_ok 17817 15 (by decide) n o
  have e2 := poly_bits
  have e3 : mulD (.lst [.int 0]) (.int 15) = some (.lst (bI (List.replicate 15 false))) := by
    show (if (decide (-(2 ^ 63) ≤ (15 : Int) ∧ (15 : Int) < 2 ^ 63) && decide ([D.int 0].length * (15 : Int).toNat ≤ sizeLine)) = true then some (D.lst (List.replicate (15 : Int).toNat [D.int 0]).flatten) else none) = _
    rw [if_pos (by decide)]
    rfl
  have h1 : bs.length < 16777216 := by omega
  have h2 : bs.length + 15 ≤ 16777216 := by omega
  have e4 := bitsN_len 17817 15
  simp at e1
  simp [m__law_check, e1, e3, hX, hX2, h1, h2, e4]
  rw [show (D.int 1 :: List.map D.int (bitsN 17817 15)) = bI polyB from e2, ← bI_app]
  refine endR_seq (forD_wp (fun i env o' => o' = o ∧ ∃ s1 R, env = [.v X, s1, .v (.lst (bI polyB)), .v (.lst (bI R)), .un] ∧ DivI bs R i) (i := 0) ⟨rfl, .un, _, rfl, DivI.start bs⟩ ?_ ?_)
  · rintro i d env o' hi ⟨rfl, s1, R, rfl, I⟩
    obtain ⟨hj, rfl⟩ := rangeD_at hi
    rw [show (0 : Int) + (i : Nat) * 1 = (i : Nat) from by omega]
    refine ⟨_, rfl, ?_⟩
    have eb := div_body (n + 1) o' (.v X) .un R i (by rw [I.len]; omega) (by rw [I.len]; omega)
    rw [Nat.zero_add] at I ⊢
    simp only [List.set_cons_succ, List.set_cons_zero]
    rw [eb]
    exact ⟨rfl, _, _, rfl, I.step hj⟩
  · rintro env o' ⟨rfl, s1, R, rfl, I⟩
    rw [rangeD_len, Nat.zero_add] at I
    have e5 := cutI_from R bs.length
    rw [I.fin] at e5
    simp [hX2, e5]
/-! ### frames -/
def bitsB (x s : Nat) : List Bool := (List.range s).map fun k => x.testBit (s - 1 - k)
@[simp] theorem bitsB_len (x s : Nat) : (bitsB x s).length = s := by simp [bitsB]
theorem bitsN_B (x s : Nat) : (bitsN x s).map D.int = bI (bitsB x s) := by
  unfold bitsN bI bitsB
  rw [List.map_map, List.map_map]
  apply List.map_congr_left
  intro k _
  show D.int ((x / 2 ^ (s - 1 - k) % 2 : Nat) : Int) = .int (b2i (x.testBit (s - 1 - k)))
  rw [Nat.testBit_eq_decide_div_mod_eq]
  congr 1
  unfold b2i
  by_cases q : x / 2 ^ (s - 1 - k) % 2 = 1
  · rw [q]; rfl
  · have : x / 2 ^ (s - 1 - k) % 2 = 0 := by omega
    rw [this]; rfl
theorem bitsof_ok (x s : Nat) (hs : s < 100000) (n : Nat) (o : Obs) : Fc (n + 1) "bits_of" [.int (x : Nat), .int (s : Nat)] o = .ok (.tup (bI (bitsB x s))) o := by
  rw [bits_of_ok x s hs, bitsN_B]
theorem lawbits_ok (x s : Nat) (hs : s < 8000) (n : Nat) (o : Obs) : Fc (n + 1) "_law_bits" [.int (x : Nat), .int (s : Nat)] o = .ok (.lst (bI (bitsB x s))) o := by
  rw [law_bits_ok x s hs, bitsN_B]
structure Frm where
  num : Nat
  lng : Bool
  ask : Bool
  data : List Nat
def Frm.topN (f : Frm) : Nat := if f.lng then 536870911 else 2047
structure Frm.Ok (f : Frm) : Prop where
  num : f.num ≤ f.topN
  len : f.data.length ≤ 8
  byte : ∀ b ∈ f.data, b < 256
  ask : f.ask = true → f.data = []
def dataD (l : List Nat) : List D := l.map fun (b : Nat) => .int (b : Nat)
@[simp] theorem dataD_len (l : List Nat) : (dataD l).length = l.length := by simp [dataD]
def frD (f : Frm) : D := .tup [.int f.num, .bl f.lng, .bl f.ask, .tup (dataD f.data)]
def turnB (f : Frm) : List Bool := if f.lng then bitsB (f.num / 262144) 11 ++ [true, true] ++ bitsB (f.num % 262144) 18 ++ [f.ask] else bitsB f.num 11 ++ [f.ask, false]
def headB (f : Frm) : List Bool := [false] ++ turnB f ++ (if f.lng then [false, false] else [false]) ++ bitsB f.data.length 4
def bytesB (l : List Nat) : List Bool := l.flatMap fun b => bitsB b 8
def bodyB (f : Frm) : List Bool := headB f ++ bytesB f.data
def plainB (f : Frm) : List Bool := bodyB f ++ rbits (crc 0 (bodyB f)) 15
theorem turnB_len (f : Frm) : (turnB f).length ≤ 32 := by unfold turnB; split <;> simp
theorem headB_len (f : Frm) : (headB f).length ≤ 39 := by
  have := turnB_len f
  unfold headB
  split <;> (simp; omega)
theorem bytesB_len (l : List Nat) : (bytesB l).length = 8 * l.length := by
  induction l with
  | nil => rfl
  | cons a l ih => simp [bytesB] at ih ⊢; omega
theorem bodyB_len {f : Frm} (h : f.Ok) : (bodyB f).length ≤ 103 := by
  have := headB_len f
  have := h.len
  simp [bodyB, bytesB_len]; omega
@[simp] theorem isi_of (b : Bool) : isiD "bool" (.bl b) = some true := (rfl)
theorem divL (x : Nat) : divD (.int (x : Nat)) (.int 262144) = some (.int ((x / 262144 : Nat) : Int)) := by
  rw [div_int, divOk_s (by decide) (by decide), Int.fdiv_eq_ediv_of_nonneg _ (by decide)]; rfl
theorem modL (x : Nat) : modD (.int (x : Nat)) (.int 262144) = some (.int ((x % 262144 : Nat) : Int)) := by
  rw [mod_int, if_neg (by decide), Int.fmod_eq_emod_of_nonneg _ (by decide)]; rfl
theorem turn_bits_ok (f : Frm) (n : Nat) (o : Obs) : Fc (n + 2) "turn_bits" [frD f] o = .ok (.tup (bI (turnB f))) o := by
  rw [r_turn_bits]
  obtain ⟨num, lng, ask, data⟩ := f
  have b1 := bitsof_ok num 11 (by decide) n o
  have b2 := bitsof_ok (num / 262144) 11 (by decide) n o
  have b3 := bitsof_ok (num % 262144) 18 (by decide) n o
  have d1 := divL num
  have d2 := modL num
  unfold turnB
  generalize num / 262144 = hi at *
  generalize num % 262144 = lo at *
  cases lng
  · simp at b1
    cases ask <;> simp [m_turn_bits, frD, b1, bI, b2i]
  · simp at b2 b3
    cases ask <;> simp [-div_int, -mod_int, m_turn_bits, frD, d1, d2, b2, b3, bI, b2i]
theorem head_bits_ok (f : Frm) (hl : f.data.length < 100000) (n : Nat) (o : Obs) : Fc (n + 3) "head_bits" [frD f] o = .ok (.tup (bI (headB f))) o := by
  rw [r_head_bits]
  have t := turn_bits_ok f n o
  have b1 := bitsof_ok f.data.length 4 (by decide) (n + 1) o
  have tl := turnB_len f
  obtain ⟨num, lng, ask, data⟩ := f
  simp only at b1
  unfold headB
  generalize turnB ⟨num, lng, ask, data⟩ = tb at *
  have h1 : (bI tb).length ≤ 32 := by rw [bI_len]; exact tl
  have h2 : tb.length + 1 ≤ 16777216 := by omega
  have h3 : tb.length + 1 + 1 ≤ 16777216 := by omega
  have h4 : tb.length + 1 + 1 + 4 ≤ 16777216 := by omega
  have h5 : tb.length + 1 + 2 ≤ 16777216 := by omega
  have h6 : tb.length + 1 + 2 + 4 ≤ 16777216 := by omega
  have h7 : 1 + tb.length ≤ 16777216 := by omega
  have h8 : 1 + tb.length + 1 ≤ 16777216 := by omega
  have h9 : 1 + tb.length + 2 ≤ 16777216 := by omega
  have h10 : 1 + tb.length + 1 + 4 ≤ 16777216 := by omega
  have h11 : 1 + tb.length + 2 + 4 ≤ 16777216 := by omega
  simp [frD] at t b1
  cases lng
  · simp [m_head_bits, frD, t, b1, h2, h3, h4, h5, h6, h7, h8, h9, h10, h11, bI_app]
    simp [bI, b2i]
  · simp [m_head_bits, frD, t, b1, h2, h3, h4, h5, h6, h7, h8, h9, h10, h11, bI_app]
    simp [bI, b2i]
theorem lcD_id {own : List Nat} {j : Nat} {env : Env} {o : Obs} (Φ : Str → List D → Obs → R D) (G : Str → Option D) (hj : ∀ d, getD' ((wipeE env own).set j (.v d)) j = some d) (es acc : List D) (hl : es.length + acc.length ≤ sizeLine) :
    lcD own (.nm j) (denC Φ G .none) (denE Φ G (.var j)) env es acc o = .ok (acc ++ es) o := by
  have := lcD_map (own := own) (tg := .nm j) (t := denC Φ G .none) (x := denE Φ G (.var j)) (env := env) (o := o) (p := fun _ => true) (f := fun d => d) (ds := es) (acc := acc) hl (fun d _ => ⟨_, rfl, by simp, fun _ => by simp [-wipeE_cons, hj]⟩)
  rw [this, filter_true, List.map_id']
theorem lc2D_flat {own vs1 : List Nat} {i j : Nat} {it1 : Env → Obs → R (List D)} {env : Env} {o : Obs} (Φ : Str → List D → Obs → R D) (G : Str → Option D) (f : D → List D) : ∀ (ds acc : List D), (ds.flatMap f).length + acc.length ≤ sizeLine →
    (∀ d ∈ ds, it1 ((wipeE env own).set i (.v d)) o = .ok (f d) o) → (∀ c d, getD' ((wipeE ((wipeE env own).set i (.v c)) vs1).set j (.v d)) j = some d) →
    lc2D own vs1 (.nm i) (denC Φ G .none) it1 (.nm j) (denC Φ G .none) (denE Φ G (.var j)) env ds acc o = .ok (acc ++ ds.flatMap f) o
  | [], acc, _, _, _ => by simp [lc2D]
  | d :: ds, acc, hl, h, hj => by
    unfold lc2D
    have h1 := h d List.mem_cons_self
    simp only [List.flatMap_cons, List.length_append] at hl
    have h2 := lcD_id (own := vs1) (j := j) (env := (wipeE env own).set i (.v d)) (o := o) Φ G (hj d) (f d) acc (by omega)
    have ih := lc2D_flat (own := own) (vs1 := vs1) (i := i) (j := j) (it1 := it1) (env := env) (o := o) Φ G f ds (acc ++ f d) (by rw [List.length_append]; omega) (fun d' hd => h d' (List.mem_cons_of_mem _ hd)) hj
    simp only [setTg_nm, dC_none, R.noex_ok, R.bind_ok, if_true, h1, h2, ih, List.flatMap_cons, List.append_assoc]
theorem body_bits_ok (f : Frm) (hl : f.data.length < 100000) (n : Nat) (o : Obs) : Fc (n + 4) "body_bits" [frD f] o = .ok (.tup (bI (bodyB f))) o := by
  rw [r_body_bits]
  have t := head_bits_ok f hl n o
  have tl := headB_len f
  have fl : (dataD f.data).flatMap (fun d => match d with | .int i => bI (bitsB i.toNat 8) | _ => []) = bI (bytesB f.data) := by
    generalize f.data = l
    induction l with
    | nil => rfl
    | cons a l ih =>
      simp only [dataD, List.map_cons, List.flatMap_cons, bytesB, bI_app, Int.toNat_natCast] at ih ⊢
      rw [ih]
  have lcc := lc2D_flat (own := [1, 2]) (vs1 := [2]) (i := 1) (j := 2) (it1 := denI (Fc (n + 3)) Gl (.sq (.call "bits_of" (.cons (.var 1) (.cons (.lit (.int 8)) .nil))))) (env := [.v (frD f), .un, .un]) (o := o) (Fc (n + 3)) Gl (fun d => match d with | .int i => bI (bitsB i.toNat 8) | _ => []) (dataD f.data) [] (by
      rw [fl, bI_len, bytesB_len]; simp; omega) (fun d hd => by
      obtain ⟨b, _, rfl⟩ := List.mem_map.mp hd
      have := bitsof_ok b 8 (by decide) (n + 2) o
      simp at this
      simp [this]) (fun c d => rfl)
  rw [fl, List.nil_append] at lcc
  have h1 : (headB f).length + (bytesB f.data).length ≤ 16777216 := by rw [bytesB_len]; omega
  unfold bodyB
  unfold frD at t lcc ⊢
  simp [m_body_bits, t, lcc, h1, bI_app]
theorem plain_bits_ok (f : Frm) (hk : f.Ok) (n : Nat) (o : Obs) : Fc (n + 5) "plain_bits" [frD f] o = .ok (.tup (bI (plainB f))) o := by
  rw [r_plain_bits]
  have t := body_bits_ok f (by have := hk.len; omega) n o
  have c := check_bits_ok (.tup (bI (bodyB f))) (bodyB f) rfl n o
  have bl := bodyB_len hk
  have h1 : (bodyB f).length + 15 ≤ 16777216 := by omega
  unfold plainB
  simp [m_plain_bits, t, c, h1, bI_app, rbits]
/-! ### what a frame is -/
theorem isnum_ok (i a b : Int) (n : Nat) (o : Obs) : Fc (n + 1) "is_number" [.int i, .int a, .int b] o = .ok (.bl (decide (a ≤ i) && decide (i ≤ b))) o := by
  rw [r_is_number]
  by_cases h : a ≤ i
  · simp [m_is_number, h]
  · simp [m_is_number, h]
theorem all_2 (a b : Bool) : biD "all" [.lst [.bl a, .bl b]] = some (.bl (a && b)) := by rw [all_lst]; simp [blsD]
theorem is_frame_ok (f : Frm) (h : f.Ok) (n : Nat) (o : Obs) : Fc (n + 2) "is_frame" [frD f] o = .ok (.bl true) o := by
  rw [r_is_frame]
  have hi := isnum_ok
  obtain ⟨h1, h2, h3, h4⟩ := h
  have hb := lcD_map (own := [1]) (tg := .nm 1) (t := denC (Fc (n + 1)) Gl .none) (x := denE (Fc (n + 1)) Gl (.call "is_number" (.cons (.var 1) (.cons (.lit (.int 0)) (.cons (.lit (.int 255)) .nil))))) (env := [.v (frD f), .un, .un]) (o := o) (p := fun _ => true) (f := fun _ => .bl true) (ds := dataD f.data) (acc := []) (by simp; omega) (fun d hd => by
    obtain ⟨b, hb, rfl⟩ := List.mem_map.mp hd
    have := h3 b hb
    refine ⟨_, rfl, by simp, fun _ => ?_⟩
    have e : (decide ((0 : Int) ≤ b) && decide ((b : Int) ≤ 255)) = true := by simp; omega
    simp [hi]
    omega)
  rw [filter_true, List.nil_append] at hb
  have ha := all_trueD (dataD f.data)
  obtain ⟨num, lng, ask, data⟩ := f
  have c1 : cutD [D.int num, .bl lng, .bl ask, .tup (dataD data)] (some 1) (some 3) = [.bl lng, .bl ask] := rfl
  have g8 : Gl "MOST_BYTES" = some (.int 8) := gl_MOST_BYTES
  have h5 : ¬ (8 : Int) < data.length := by have : data.length ≤ 8 := h2; omega
  have hn : (num : Int) ≤ (if lng then 536870911 else 2047) := by
    have : num ≤ (if lng then 536870911 else 2047) := h1
    cases lng <;> simp at this ⊢ <;> omega
  have h0 : (0 : Int) ≤ (num : Nat) := by omega
  have n1 : cmpD .NotEq (.tup []) (.tup []) = some false := by
    rw [ne_okD (by decide) (by decide)]; rfl
  simp only [frD] at hb
  cases ask
  · cases lng <;> (simp at hn; simp [m_is_frame, frD, lcD, c1, all_2, hi, hn, h5, hb, ha])
  · have hd : data = [] := h4 rfl
    subst hd
    simp [dataD] at hb ha
    have c2 : cutD [D.int num, .bl lng, .bl true, .tup []] (some 1) (some 3) = [.bl lng, .bl true] := rfl
    cases lng <;> (simp at hn; simp [m_is_frame, frD, dataD, lcD, c2, all_2, hi, hn, h5, hb, ha, n1])
/-! ### frames by the law; frames drawn -/
theorem law_body_ok (f : Frm) (hl : f.data.length < 100000) (n : Nat) (o : Obs) : Fc (n + 2) "_law_body" [frD f] o = .ok (.lst (bI (bodyB f))) o := by
  rw [r__law_body]
  have b1 := lawbits_ok f.num 11 (by decide) n o
  have b2 := lawbits_ok (f.num / 262144) 11 (by decide) n o
  have b3 := lawbits_ok (f.num % 262144) 18 (by decide) n o
  have b4 := lawbits_ok f.data.length 4 (by decide) n o
  have d1 := divL f.num
  have hd : ∃ hB : List Bool, hB = headB f ∧ hB.length ≤ 39 := ⟨_, rfl, headB_len f⟩
  have fin : ∀ e1 e3 e4 e5 e6 : Sl, endR ((forD (.nm 3) (denSs (Fc (n + 1)) Gl lawM w__law_body_0) (dataD f.data) [.v (frD f), e1, .v (.lst (bI (headB f))), e3, e4, e5, e6, .v (.tup (dataD f.data))] o).seq (denSs (Fc (n + 1)) Gl lawM (.cons (.ret (.var 2)) .nil))) = .ok (.lst (bI (bodyB f))) o := fun e1 e3 e4 e5 e6 => by
    refine endR_seq (forD_wp (fun i env o' => o' = o ∧ ∃ s3, env = [.v (frD f), e1, .v (.lst (bI (headB f ++ bytesB (f.data.take i)))), s3, e4, e5, e6, .v (.tup (dataD f.data))]) (i := 0) ⟨rfl, e3, by simp [bytesB]⟩ ?_ ?_)
    · rintro i d env o' hi ⟨rfl, s3, rfl⟩
      have hi2 : i < f.data.length := by
        have := (List.getElem?_eq_some_iff.mp hi).1
        simpa using this
      have hb : f.data[i]? = some f.data[i] := List.getElem?_eq_getElem hi2
      have hd : d = .int (f.data[i] : Nat) := by
        unfold dataD at hi
        rw [List.getElem?_map, hb] at hi
        exact (Option.some.inj hi).symm
      subst hd
      refine ⟨_, rfl, ?_⟩
      have e := lawbits_ok f.data[i] 8 (by decide) n o'
      have ht : bytesB (f.data.take (0 + i + 1)) = bytesB (f.data.take (0 + i)) ++ bitsB f.data[i] 8 := by
        rw [Nat.zero_add, List.take_add_one, hb]
        show bytesB (f.data.take i ++ [f.data[i]]) = _
        unfold bytesB
        rw [List.flatMap_append]
        simp
      rw [ht]
      have hh := headB_len f
      have hbl := bytesB_len (f.data.take (0 + i))
      generalize bytesB (f.data.take (0 + i)) = z at *
      have h1 : (headB f).length + z.length + 8 ≤ 16777216 := by rw [hbl, List.length_take]; omega
      have h2 : (headB f).length + (z.length + 8) ≤ 16777216 := by omega
      simp at e
      simp [w__law_body_0, e, h1, h2, bI_app]
    · rintro env o' ⟨rfl, s3, rfl⟩
      rw [dataD_len, Nat.zero_add, List.take_length]
      simp [bodyB]
  obtain ⟨num, lng, ask, data⟩ := f
  simp only at b1 b2 b3 b4 d1
  cases lng
  · have hh : headB ⟨num, false, ask, data⟩ = [false] ++ bitsB num 11 ++ [ask, false, false] ++ bitsB data.length 4 := by simp [headB, turnB]
    have hhI : bI (headB ⟨num, false, ask, data⟩) = .int 0 :: (bI (bitsB num 11) ++ (.int (b2i ask) :: .int 0 :: .int 0 :: bI (bitsB data.length 4))) := by rw [hh]; simp [bI, b2i]
    simp at b1 b4
    rw [hhI] at fin
    cases ask <;> (simp [b2i] at fin; simp [m__law_body, frD, b1, b4]; exact fin _ _ _ _ _)
  · have hh : headB ⟨num, true, ask, data⟩ = [false] ++ bitsB (num / 262144) 11 ++ [true, true] ++ bitsB (num % 262144) 18 ++ [ask, false, false] ++ bitsB data.length 4 := by simp [headB, turnB]
    have hhI : bI (headB ⟨num, true, ask, data⟩) = .int 0 :: (bI (bitsB (num / 262144) 11) ++ (.int 1 :: .int 1 :: (bI (bitsB (num % 262144) 18) ++ (.int (b2i ask) :: .int 0 :: .int 0 :: bI (bitsB data.length 4))))) := by rw [hh]; simp [bI, b2i]
    have m1 : mulOk ((num / 262144 : Nat) : Int) 262144 = true := mulOk_r (by decide)
    have s1 : (num : Int) - ((num / 262144 : Nat) : Int) * 262144 = ((num % 262144 : Nat) : Int) := by omega
    generalize num / 262144 = hi at *
    generalize num % 262144 = lo at *
    simp at b2 b3 b4
    rw [hhI] at fin
    have e11 := bitsN_len num 11
    have b1 := lawbits_ok num 11 (by decide) n o
    simp at b1
    cases ask <;> (simp [b2i] at fin; simp [-div_int, m__law_body, frD, b1, b2, b3, b4, d1, m1, s1]; exact fin _ _ _ _ _)
theorem law_frame_ok (s : Bx) (n : Nat) (most : Int) (hm : 0 ≤ most) (hm2 : most ≤ 8) : ∃ f s', Fc (n + 3) "_law_frame" [.obj 1, .int most] (bx s []) = .ok (frD f) (bx s' []) ∧ f.Ok ∧ (f.data.length : Int) ≤ most := by
  obtain ⟨d1, s1, e1, p1, q1⟩ := draw_ok s [] n (many := 2) (by decide) (by decide)
  obtain ⟨d2, s2, e2, p2, q2⟩ := draw_ok s1 [] n (many := 4) (by decide) (by decide)
  obtain ⟨lng, hl⟩ : ∃ b : Bool, b = decide (d1 = 0) := ⟨_, rfl⟩
  obtain ⟨ask, ha⟩ : ∃ b : Bool, b = decide (d2 = 0) := ⟨_, rfl⟩
  obtain ⟨top, ht⟩ : ∃ t : Int, t = if lng then 536870911 else 2047 := ⟨_, rfl⟩
  have t1 : 31 ≤ top ∧ top ≤ 536870911 := by rw [ht]; cases lng <;> simp
  obtain ⟨d3, s3, e3, p3, q3⟩ := draw_ok s2 [] n (many := top + 1) (by omega) (by omega)
  obtain ⟨d4, s4, e4, p4, q4⟩ := draw_ok s3 [] n (many := 32) (by decide) (by decide)
  obtain ⟨d5, s5, e5, p5, q5⟩ := draw_ok s4 [] n (many := 4) (by decide) (by decide)
  obtain ⟨num, hn, hn2⟩ : ∃ num : Nat, atI [D.int 0, .int top, .int d3, .int d4] d5 = some (.int num) ∧ (num : Int) ≤ top := by
    have : d5 = 0 ∨ d5 = 1 ∨ d5 = 2 ∨ d5 = 3 := by omega
    rcases this with rfl | rfl | rfl | rfl
    · exact ⟨0, rfl, by omega⟩
    · exact ⟨top.toNat, by rw [show ((top.toNat : Nat) : Int) = top from by omega]; rfl, by omega⟩
    · exact ⟨d3.toNat, by rw [show ((d3.toNat : Nat) : Int) = d3 from by omega]; rfl, by omega⟩
    · exact ⟨d4.toNat, by rw [show ((d4.toNat : Nat) : Int) = d4 from by omega]; rfl, by omega⟩
  have hnum : num ≤ (if lng then 536870911 else 2047) := by
    rw [ht] at hn2
    cases lng <;> simp at hn2 ⊢ <;> omega
  have pre : ∀ data : List Nat, num ≤ Frm.topN ⟨num, lng, ask, data⟩ := fun _ => hnum
  rw [r__law_frame]
  cases hask : ask with
  | true =>
    rw [hask] at ha pre
    have : d2 = 0 := by simpa using ha.symm
    subst this
    refine ⟨⟨num, lng, true, []⟩, s5, ?_, ⟨pre _, by simp, by simp, fun _ => rfl⟩, by simpa using hm⟩
    cases lng
    · have h1 : ¬ d1 = 0 := by simpa using hl.symm
      simp at ht; subst ht
      simp at e3
      simp [m__law_frame, e1, e2, e3, e4, e5, h1, hn, frD, dataD]
    · have h1 : d1 = 0 := by simpa using hl.symm
      simp at ht; subst ht
      simp at e3
      simp [m__law_frame, e1, e2, e3, e4, e5, h1, hn, frD, dataD]
  | false =>
    rw [hask] at ha pre
    have h2 : ¬ d2 = 0 := by simpa using ha.symm
    obtain ⟨m, s6, e6, p6, q6⟩ := draw_ok s5 [] n (many := most + 1) (by omega) (by omega)
    have hsm : smallI m = true := by
      obtain ⟨k, rfl⟩ := Int.eq_ofNat_of_zero_le p6
      exact smallI_nat k (by omega)
    have lcw := fun env (h : ∀ d, getD' ((wipeE env [7]).set 7 (.v d)) 0 = some (.obj 1)) => lcD_wp (own := [7]) (tg := .nm 7) (t := denC (Fc (n + 2)) Gl .none) (x := denE (Fc (n + 2)) Gl (.ix (.tup (.cons (.lit (.int 0)) (.cons (.lit (.int 255)) (.cons (.call "_law_draw" (.cons (.var 0) (.cons (.lit (.int 256)) .nil))) .nil)))) (.call "_law_draw" (.cons (.var 0) (.cons (.lit (.int 3)) .nil))))) (env := env)
      (P := fun es o => ∃ (l : List Nat) (s' : Bx), es = dataD l ∧ o = bx s' [] ∧ l.length = m.toNat ∧ ∀ b ∈ l, b < 256) (fun i acc o => ∃ (l : List Nat) (s' : Bx), acc = dataD l ∧ o = bx s' [] ∧ l.length = i ∧ ∀ b ∈ l, b < 256) (ds := rangeD 0 m.toNat 1) (acc := []) (o := bx s6 []) (i := 0) ⟨[], s6, rfl, rfl, rfl, by simp⟩
      (fun j d acc o hj ⟨l, s', hacc, ho, hlen, hb⟩ => by
        subst ho
        subst hacc
        obtain ⟨hj, rfl⟩ := rangeD_at hj
        obtain ⟨x1, y1, z1, u1, w1⟩ := draw_ok s' [] n (many := 256) (by decide) (by decide)
        obtain ⟨x2, y2, z2, u2, w2⟩ := draw_ok y1 [] n (many := 3) (by decide) (by decide)
        obtain ⟨b, hb1, hb2⟩ : ∃ b : Nat, atI [D.int 0, .int 255, .int x1] x2 = some (.int b) ∧ b < 256 := by
          have : x2 = 0 ∨ x2 = 1 ∨ x2 = 2 := by omega
          rcases this with rfl | rfl | rfl
          · exact ⟨0, rfl, by omega⟩
          · exact ⟨255, rfl, by omega⟩
          · exact ⟨x1.toNat, by rw [show ((x1.toNat : Nat) : Int) = x1 from by omega]; rfl, by omega⟩
        refine ⟨_, rfl, ?_⟩
        have hl2 : l.length < 16777216 := by omega
        simp [-wipeE_cons, h, z1, z2, hb1, hl2]
        exact ⟨l ++ [b], by simp [dataD], ⟨y2, rfl⟩, by simp; omega, fun b' hb' => by
          rcases List.mem_append.mp hb' with h | h
          · exact hb b' h
          · simp at h; subst h; exact hb2⟩)
      (fun acc o ⟨l, s', hacc, ho, hlen, hb⟩ => ⟨l, s', hacc, ho, by simpa [rangeD_len] using hlen, hb⟩)
    cases lng
    · have h1 : ¬ d1 = 0 := by simpa using hl.symm
      simp at ht; subst ht
      obtain ⟨es, o, e7, l, s7, rfl, rfl, l1, l2⟩ := R.wp_eq (lcw [.v (.obj 1), .v (.int most), .v (.int 2047), .v (.int num), .un, .v (.bl false), .v (.bl false), .un] fun _ => rfl)
      refine ⟨⟨num, false, false, l⟩, s7, ?_, ⟨pre _, by simp only; omega, l2, fun h => by cases h⟩, by simp only; omega⟩
      simp at e3
      simp [m__law_frame, e1, e2, e3, e4, e5, e6, e7, h1, h2, hn, frD, hsm]
    · have h1 : d1 = 0 := by simpa using hl.symm
      simp at ht; subst ht
      obtain ⟨es, o, e7, l, s7, rfl, rfl, l1, l2⟩ := R.wp_eq (lcw [.v (.obj 1), .v (.int most), .v (.int 536870911), .v (.int num), .un, .v (.bl true), .v (.bl false), .un] fun _ => rfl)
      refine ⟨⟨num, true, false, l⟩, s7, ?_, ⟨pre _, by simp only; omega, l2, fun h => by cases h⟩, by simp only; omega⟩
      simp at e3
      simp [m__law_frame, e1, e2, e3, e4, e5, e6, e7, h1, h2, hn, frD, hsm]
/-! ### lists of bits, compared -/
theorem rangeD_map_eq {N : Nat} {f : D → D} {l : List D} (hl : l.length = N) (h : ∀ k, k < N → l[k]? = some (f (.int (k : Nat)))) : (rangeD 0 N 1).map f = l := by
  apply List.ext_getElem?
  intro k
  by_cases hk : k < N
  · rw [h k hk]
    unfold rangeD
    rw [List.getElem?_map, List.getElem?_map, List.getElem?_range hk]
    simp
  · rw [List.getElem?_eq_none (by simp [rangeD_len]; omega), List.getElem?_eq_none (by omega)]
theorem b2i_inj : ∀ {a b : List Bool}, a.map b2i = b.map b2i → a = b
  | [], [], _ => rfl
  | [], _ :: _, h => by cases h
  | _ :: _, [], h => by cases h
  | x :: a, y :: b, h => by
    simp only [List.map_cons, List.cons.injEq] at h
    rw [b2i_inj h.2]
    congr 1
    have := h.1
    cases x <;> cases y <;> first | rfl | (simp [b2i] at this)
theorem bI_ints (a : List Bool) : bI a = (a.map b2i).map .int := by simp [bI]
theorem plain_bI (a : List Bool) : plainDs (bI a) = true ∧ depDs (bI a) = 0 := by
  induction a with
  | nil => exact ⟨rfl, rfl⟩
  | cons x a ih =>
    refine ⟨?_, ?_⟩
    · show (true && plainDs (bI a)) = true
      rw [ih.1]; rfl
    · show max 0 (depDs (bI a)) = 0
      rw [ih.2]; rfl
theorem okD_bI (a : List Bool) (h : a.length < 16777216) : okD (.lst (bI a)) = true := by
  unfold okD
  simp only [plainD, (plain_bI a).1, depD, (plain_bI a).2, bI_len, Bool.true_and, Bool.and_eq_true, decide_eq_true_eq]
  exact ⟨h, by decide⟩
theorem cmp_bI (a b : List Bool) (ha : a.length < 16777216) (hb : b.length < 16777216) : cmpD .Eq (.lst (bI a)) (.lst (bI b)) = some (decide (a = b)) := by
  rw [eq_okD (okD_bI a ha) (okD_bI b hb)]
  congr 1
  show eqvDs (bI a) (bI b) = _
  rw [bI_ints, bI_ints, eqvDs_ints]
  exact decide_eq_decide.mpr ⟨b2i_inj, fun h => by rw [h]⟩
theorem toB : ∀ {es : List D}, (∀ d ∈ es, ∃ i : Int, d = .int i ∧ 0 ≤ i ∧ i < 2) → ∃ bb : List Bool, es = bI bb
  | [], _ => ⟨[], rfl⟩
  | d :: es, h => by
    obtain ⟨i, rfl, h1, h2⟩ := h d List.mem_cons_self
    obtain ⟨bb, hb⟩ := toB (es := es) fun d' hd => h d' (List.mem_cons_of_mem _ hd)
    have : i = 0 ∨ i = 1 := by omega
    rcases this with rfl | rfl
    · exact ⟨false :: bb, by rw [hb]; rfl⟩
    · exact ⟨true :: bb, by rw [hb]; rfl⟩
@[simp] theorem list_tup (a : List D) : biD "list" [.tup a] = some (.lst a) := (rfl)
@[simp] theorem list_lst (a : List D) : biD "list" [.lst a] = some (.lst a) := (rfl)
theorem plain_tI (a : List Bool) (h : a.length < 16777216) : plainD (.tup (bI a)) = true ∧ depD (.tup (bI a)) = 1 := by
  refine ⟨?_, ?_⟩
  · simp only [plainD, (plain_bI a).1, bI_len, Bool.true_and]; exact decide_eq_true h
  · simp only [depD, (plain_bI a).2]
/-! ### stuffed bits, over bits alone -/
/-- how many like ones are at the end, behind one bit more -/
def rbB (last : Option Bool) (run : Nat) (b : Bool) : Nat := if last = some b then run + 1 else 1
structure StB where
  acc : List Bool
  last : Option Bool
  run : Nat
def stS (s : StB) (b : Bool) : StB := if rbB s.last s.run b = 5 then ⟨s.acc ++ [b] ++ [!b], some !b, 1⟩ else ⟨s.acc ++ [b], some b, rbB s.last s.run b⟩
def stI : StB := ⟨[], none, 0⟩
def stF (bs : List Bool) : StB := bs.foldl stS stI
def stuffB (bs : List Bool) : List Bool := (stF bs).acc
/-- one bit of stuffed ones: none where it is the sixth like one -/
def unS (s : StB) (b : Bool) : Option StB := if s.run = 5 then (if s.last = some b then none else some ⟨s.acc, some b, 1⟩) else some ⟨s.acc ++ [b], some b, rbB s.last s.run b⟩
def unF : List Bool → StB → Option StB
  | [], s => some s
  | b :: r, s => (unS s b).bind (unF r)
theorem unF_app : ∀ (x y : List Bool) (s : StB), unF (x ++ y) s = (unF x s).bind (unF y)
  | [], _, _ => rfl
  | b :: x, y, s => by
    show (unS s b).bind (unF (x ++ y)) = ((unS s b).bind (unF x)).bind (unF y)
    cases unS s b with
    | none => rfl
    | some t => exact unF_app x y t
theorem stF_snoc (bs : List Bool) (b : Bool) : stF (bs ++ [b]) = stS (stF bs) b := by simp [stF]
theorem snoc_ind {α : Type} {P : List α → Prop} (h0 : P []) (h1 : ∀ l a, P l → P (l ++ [a])) : ∀ l, P l := fun l => by
  rw [← List.reverse_reverse l]
  induction l.reverse with
  | nil => exact h0
  | cons a l ih => rw [List.reverse_cons]; exact h1 _ _ ih
theorem rbB_le {last : Option Bool} {run : Nat} {b : Bool} (h : run ≤ 4) : rbB last run b ≤ 5 := by unfold rbB; split <;> omega
theorem rbB_pos (last : Option Bool) (run : Nat) (b : Bool) : 1 ≤ rbB last run b := by unfold rbB; split <;> omega
theorem stF_run (bs : List Bool) : (stF bs).run ≤ 4 := by
  induction bs using snoc_ind with
  | h0 => decide
  | h1 l a ih =>
    rw [stF_snoc]; unfold stS
    have := rbB_le (last := (stF l).last) (b := a) ih
    split
    · show 1 ≤ 4; decide
    · show rbB _ _ _ ≤ 4; omega
/-- stuffed bits, unstuffed -/
theorem unF_stuff (bs : List Bool) : unF (stuffB bs) stI = some ⟨bs, (stF bs).last, (stF bs).run⟩ := by
  induction bs using snoc_ind with
  | h0 => rfl
  | h1 l a ih =>
    unfold stuffB at ih ⊢
    have hr := stF_run l
    rw [stF_snoc]
    unfold stS
    have h1 : unF ((stF l).acc ++ [a]) stI = some ⟨l ++ [a], some a, rbB (stF l).last (stF l).run a⟩ := by
      rw [unF_app, ih]
      show (unS _ a).bind (unF []) = _
      unfold unS
      rw [if_neg (by show ¬ (stF l).run = 5; omega)]
      rfl
    split
    · rename_i h5
      show unF ((stF l).acc ++ [a] ++ [!a]) stI = some ⟨l ++ [a], some !a, 1⟩
      rw [unF_app, h1, h5]
      show (unS _ (!a)).bind (unF []) = _
      unfold unS
      rw [if_pos rfl, if_neg (by simp)]
      rfl
    · exact h1
/-- unstuffed bits, stuffed -/
theorem stuff_unF : ∀ (bs : List Bool) {s : StB}, unF bs stI = some s → if s.run = 5 then (∃ b, s.last = some b ∧ stF s.acc = ⟨bs ++ [!b], some !b, 1⟩) else stF s.acc = ⟨bs, s.last, s.run⟩ := by
  intro bs
  induction bs using snoc_ind with
  | h0 =>
    intro s h
    cases h
    rfl
  | h1 l a ih =>
    intro s h
    rw [unF_app] at h
    cases hu : unF l stI with
    | none => rw [hu] at h; cases h
    | some t =>
      rw [hu] at h
      have h : (unS t a).bind (unF []) = some s := h
      have it := ih hu
      unfold unS at h
      split at h
      · rename_i h5
        rw [if_pos h5] at it
        obtain ⟨b, e1, e2⟩ := it
        split at h
        · cases h
        · rename_i hne
          cases h
          have hb : a = !b := by
            rw [e1] at hne
            cases a <;> cases b <;> simp_all
          rw [if_neg (by show ¬ (1 : Nat) = 5; decide)]
          rw [e2, hb]
      · rename_i h5
        rw [if_neg h5] at it
        cases h
        show if rbB t.last t.run a = 5 then _ else _
        have e : stF (t.acc ++ [a]) = stS ⟨l, t.last, t.run⟩ a := by rw [stF_snoc, it]
        split
        · rename_i h6
          refine ⟨a, rfl, ?_⟩
          show stF (t.acc ++ [a]) = _
          rw [e]; unfold stS; rw [if_pos h6]
        · rename_i h6
          show stF (t.acc ++ [a]) = _
          rw [e]; unfold stS; rw [if_neg h6]
theorem unF_acc : ∀ (bs : List Bool) {s t : StB}, unF bs s = some t → s.acc <+: t.acc
  | [], s, t, h => by cases h; exact List.prefix_refl _
  | b :: r, s, t, h => by
    have h : (unS s b).bind (unF r) = some t := h
    cases hu : unS s b with
    | none => rw [hu] at h; cases h
    | some m =>
      rw [hu] at h
      refine List.IsPrefix.trans ?_ (unF_acc r h)
      unfold unS at hu
      split at hu
      · split at hu
        · cases hu
        · cases hu; exact List.prefix_refl _
      · cases hu; exact List.prefix_append _ _
theorem stS_acc (s : StB) (b : Bool) : s.acc <+: (stS s b).acc := by
  unfold stS
  split
  · rw [List.append_assoc]; exact List.prefix_append _ _
  · exact List.prefix_append _ _
theorem foldl_stS_acc : ∀ (bs : List Bool) (s : StB), s.acc <+: (bs.foldl stS s).acc
  | [], _ => List.prefix_refl _
  | b :: r, s => (stS_acc s b).trans (foldl_stS_acc r (stS s b))
/-- stuffed bits begin with others just where the bits do -/
theorem stuff_prefix {a b : List Bool} : stuffB a <+: stuffB b ↔ a <+: b := by
  constructor
  · rintro ⟨r, h⟩
    have h1 := unF_stuff b
    rw [← h, unF_app, unF_stuff a] at h1
    exact unF_acc r (s := ⟨a, (stF a).last, (stF a).run⟩) h1
  · rintro ⟨r, rfl⟩
    unfold stuffB stF
    rw [List.foldl_append]
    exact foldl_stS_acc r _
/-! like ones at the end -/
def RI (l : List Bool) (last : Option Bool) (run : Nat) : Prop := match last with
  | none => l = [] ∧ run = 0
  | some b => 1 ≤ run ∧ ∃ pre, l = pre ++ List.replicate run b ∧ pre.getLast? ≠ some b
def Alike (m : Nat) (l : List Bool) : Prop := m ≤ l.length ∧ ∃ b, l.drop (l.length - m) = List.replicate m b
theorem RI.step {l : List Bool} {last : Option Bool} {run : Nat} (h : RI l last run) (b : Bool) : RI (l ++ [b]) (some b) (rbB last run b) := by
  refine ⟨rbB_pos _ _ _, ?_⟩
  unfold rbB
  cases last with
  | none =>
    obtain ⟨rfl, rfl⟩ := h
    exact ⟨[], rfl, by simp⟩
  | some c =>
    obtain ⟨h1, pre, rfl, h2⟩ := h
    by_cases e : c = b
    · subst e
      refine ⟨pre, ?_, h2⟩
      rw [if_pos rfl, List.replicate_succ', List.append_assoc]
    · refine ⟨pre ++ List.replicate run c, ?_, ?_⟩
      · rw [if_neg (by simpa using e)]; rfl
      · rw [List.getLast?_append, List.getLast?_replicate, if_neg (by omega)]
        simpa using e
theorem RI.start : RI [] none 0 := ⟨rfl, rfl⟩
theorem RI.alike {l : List Bool} {last : Option Bool} {run m : Nat} (h : RI l last run) (hm : 1 ≤ m) : Alike m l ↔ m ≤ run := by
  cases last with
  | none =>
    obtain ⟨rfl, rfl⟩ := h
    exact ⟨fun ⟨h, _⟩ => h, fun h => by omega⟩
  | some b =>
    obtain ⟨h1, pre, rfl, h2⟩ := h
    constructor
    · rintro ⟨q1, c, q2⟩
      refine Nat.le_of_not_lt fun hlt => ?_
      have hl : (pre ++ List.replicate run b).length = pre.length + run := by simp
      rw [hl] at q1 q2
      have e1 : ∀ i, i < m → (pre ++ List.replicate run b)[pre.length + run - m + i]? = some c := fun i hi => by
        have := congrArg (fun z => z[i]?) q2
        simp only [List.getElem?_drop] at this
        rw [this, List.getElem?_replicate, if_pos hi]
      have a1 := e1 (m - 1) (by omega)
      rw [show pre.length + run - m + (m - 1) = pre.length + (run - 1) from by omega, List.getElem?_append_right (by omega), List.getElem?_replicate, if_pos (by omega)] at a1
      have a2 := e1 (m - 1 - run) (by omega)
      rw [show pre.length + run - m + (m - 1 - run) = pre.length - 1 from by omega, List.getElem?_append_left (by omega), ← List.getLast?_eq_getElem?] at a2
      exact h2 (a2.trans a1.symm)
    · intro q
      refine ⟨by simp; omega, b, ?_⟩
      have hl : (pre ++ List.replicate run b).length = pre.length + run := by simp
      rw [hl, List.drop_append, List.drop_eq_nil_of_le (by omega), List.drop_replicate, List.nil_append]
      congr 1
      omega
theorem un_RI : ∀ (bs : List Bool) {s : StB}, unF bs stI = some s → RI bs s.last s.run ∧ s.run ≤ 5 := by
  intro bs
  induction bs using snoc_ind with
  | h0 => intro s h; cases h; exact ⟨RI.start, by decide⟩
  | h1 l a ih =>
    intro s h
    rw [unF_app] at h
    cases hu : unF l stI with
    | none => rw [hu] at h; cases h
    | some t =>
      rw [hu] at h
      have h : (unS t a).bind (unF []) = some s := h
      obtain ⟨r1, r2⟩ := ih hu
      unfold unS at h
      split at h
      · split at h
        · cases h
        · rename_i h5 hne
          cases h
          have := r1.step a
          have e : rbB t.last t.run a = 1 := by unfold rbB; rw [if_neg hne]
          rw [e] at this
          exact ⟨this, by show 1 ≤ 5; decide⟩
      · rename_i h5
        cases h
        exact ⟨r1.step a, rbB_le (by omega)⟩
theorem unS_none {l : List Bool} {s : StB} {b : Bool} (r : RI l s.last s.run) (h : s.run ≤ 5) : unS s b = none ↔ Alike 6 (l ++ [b]) := by
  rw [(r.step b).alike (by decide)]
  unfold unS rbB
  by_cases h5 : s.run = 5
  · rw [if_pos h5]
    by_cases e : s.last = some b
    · rw [if_pos e, if_pos e]; simp; omega
    · rw [if_neg e, if_neg e]; simp
  · rw [if_neg h5]
    constructor
    · intro z; cases z
    · intro z
      split at z <;> omega
/-- where it is refused, or what it ends with -/
def badAt : List Bool → StB → Nat → Nat ⊕ StB
  | [], s, _ => .inr s
  | b :: r, s, i => match unS s b with
    | none => .inl i
    | some t => badAt r t (i + 1)
def unR (bs : List Bool) : Nat ⊕ List Bool := match badAt bs stI 0 with
  | .inl k => .inl k
  | .inr s => if s.run = 5 then .inl bs.length else .inr s.acc
theorem badAt_spec {bs : List Bool} : ∀ (r pre : List Bool) (s : StB), bs = pre ++ r → unF pre stI = some s → (∀ j, j < pre.length → ¬ Alike 6 (bs.take (j + 1))) →
    match badAt r s pre.length with
    | .inl k => k < bs.length ∧ 5 ≤ k ∧ Alike 6 (bs.take (k + 1)) ∧ ∀ j, j < k → ¬ Alike 6 (bs.take (j + 1))
    | .inr t => unF bs stI = some t ∧ ∀ j, j < bs.length → ¬ Alike 6 (bs.take (j + 1))
  | [], pre, s, e, h, a => by
    rw [List.append_nil] at e
    subst e
    exact ⟨h, a⟩
  | b :: r, pre, s, e, h, a => by
    have ht : bs.take (pre.length + 1) = pre ++ [b] := by
      rw [e, List.take_append, List.take_of_length_le (by omega), show pre.length + 1 - pre.length = 1 from by omega]; rfl
    obtain ⟨r1, r2⟩ := un_RI pre h
    unfold badAt
    cases hu : unS s b with
    | none =>
      have h6 := (unS_none r1 r2).mp hu
      refine ⟨by rw [e]; simp, ?_, by rw [ht]; exact h6, a⟩
      have := h6.1
      simp at this; exact this
    | some t =>
      have h2 : unF (pre ++ [b]) stI = some t := by
        rw [unF_app, h]
        show (unS s b).bind (unF []) = some t
        rw [hu]; rfl
      have := badAt_spec (bs := bs) r (pre ++ [b]) t (by rw [e]; simp) h2 (fun j hj => by
        simp only [List.length_append, List.length_cons, List.length_nil] at hj
        by_cases hj2 : j < pre.length
        · exact a j hj2
        · have : j = pre.length := by omega
          rw [this, ht, ← unS_none r1 r2, hu]
          intro z; cases z)
      simpa using this
/-- what is refused, and what is not -/
theorem unR_spec (bs : List Bool) : match unR bs with
    | .inl k => (k < bs.length ∧ 5 ≤ k ∧ Alike 6 (bs.take (k + 1)) ∧ ∀ j, j < k → ¬ Alike 6 (bs.take (j + 1))) ∨ (k = bs.length ∧ Alike 5 bs ∧ ∀ j, j < bs.length → ¬ Alike 6 (bs.take (j + 1)))
    | .inr p => stuffB p = bs ∧ ¬ Alike 5 bs ∧ ∀ j, j < bs.length → ¬ Alike 6 (bs.take (j + 1)) := by
  have h := badAt_spec (bs := bs) bs [] stI rfl rfl (fun j hj => absurd hj (Nat.not_lt_zero j))
  unfold unR
  change (match badAt bs stI 0 with
    | .inl k => k < bs.length ∧ 5 ≤ k ∧ Alike 6 (bs.take (k + 1)) ∧ ∀ j, j < k → ¬ Alike 6 (bs.take (j + 1))
    | .inr t => unF bs stI = some t ∧ ∀ j, j < bs.length → ¬ Alike 6 (bs.take (j + 1))) at h
  cases hb : badAt bs stI 0 with
  | inl k => rw [hb] at h; exact .inl h
  | inr t =>
    rw [hb] at h
    obtain ⟨h1, h2⟩ := h
    obtain ⟨r1, r2⟩ := un_RI bs h1
    have al := r1.alike (m := 5) (by decide)
    have st := stuff_unF bs h1
    by_cases h5 : t.run = 5
    · simp only [if_pos h5]
      refine .inr ⟨?_, al.mpr (by omega), h2⟩; trivial
    · simp only [if_neg h5]
      rw [if_neg h5] at st
      exact ⟨by unfold stuffB; rw [st], fun z => h5 (by have := al.mp z; omega), h2⟩
theorem badAt_un : ∀ (bs : List Bool) (s : StB) (i : Nat) {t : StB}, unF bs s = some t → badAt bs s i = .inr t
  | [], s, i, t, h => by cases h; rfl
  | b :: r, s, i, t, h => by
    have h : (unS s b).bind (unF r) = some t := h
    unfold badAt
    cases hu : unS s b with
    | none => rw [hu] at h; cases h
    | some m => rw [hu] at h; exact badAt_un r m (i + 1) h
/-- stuffed bits are taken -/
theorem unR_stuff (bs : List Bool) : unR (stuffB bs) = .inr bs := by
  unfold unR
  rw [badAt_un _ _ 0 (unF_stuff bs)]
  have := stF_run bs
  simp only
  rw [if_neg (by omega)]
theorem stuffB_len (bs : List Bool) : (stuffB bs).length ≤ 2 * bs.length := by
  unfold stuffB
  induction bs using snoc_ind with
  | h0 => decide
  | h1 l a ih =>
    rw [stF_snoc]; unfold stS
    split <;> (simp; omega)
theorem le_stuffB_len (bs : List Bool) : bs.length ≤ (stuffB bs).length := by
  unfold stuffB
  induction bs using snoc_ind with
  | h0 => decide
  | h1 l a ih =>
    rw [stF_snoc]; unfold stS
    split <;> (simp; omega)
theorem take_stuff (a b : List Bool) : ((stuffB b).take (stuffB a).length = stuffB a) ↔ (b.take a.length = a) := by
  have := stuff_prefix (a := a) (b := b)
  rw [List.prefix_iff_eq_take, List.prefix_iff_eq_take] at this
  exact ⟨fun h => (this.mp h.symm).symm, fun h => (this.mpr h.symm).symm⟩
/-! ### stuffed bits in the text -/
def lastD : Option Bool → D
  | none => .non
  | some b => .int (b2i b)
theorem eq_last (b : Bool) (last : Option Bool) : cmpD .Eq (.int (b2i b)) (lastD last) = some (decide (last = some b)) := by
  cases last with
  | none => cases b <;> rfl
  | some c => cases b <;> cases c <;> rfl
theorem other_ok (b : Bool) (n : Nat) (o : Obs) : Fc (n + 1) "other_bit" [.int (b2i b)] o = .ok (.int (b2i (!b))) o := by
  rw [r_other_bit]
  cases b <;> simp [m_other_bit, b2i]
theorem behind_run (last : Option Bool) (run : Nat) (b : Bool) (n : Nat) (o : Obs) : Fc (n + 1) "run_behind" [lastD last, .int (run : Nat), .int (b2i b)] o = .ok (.int (rbB last run b : Nat)) o := by
  rw [r_run_behind]
  have e := eq_last b last
  unfold rbB
  by_cases h : last = some b
  · rw [decide_eq_true h] at e
    rw [if_pos h]
    simp [m_run_behind, e]
  · rw [decide_eq_false h] at e
    rw [if_neg h]
    simp [m_run_behind, e]
theorem stF_acc_le (bs : List Bool) (i : Nat) : (stF (bs.take i)).acc.length ≤ 2 * bs.length := by
  have := stuffB_len (bs.take i)
  unfold stuffB at this
  simp at this
  omega
theorem stuffed_ok (X : D) (bs : List Bool) (hX : seqD X = some (bI bs)) (hl : bs.length < 1000000) (n : Nat) (o : Obs) : Fc (n + 2) "stuffed" [X] o = .ok (.tup (bI (stuffB bs))) o := by
  rw [r_stuffed]
  simp [m_stuffed, hX]
  refine endR_seq (forD_wp (fun i env o' => o' = o ∧ ∃ s1, env = [.v X, s1, .ol (bI (stF (bs.take i)).acc), .v (lastD (stF (bs.take i)).last), .v (.int ((stF (bs.take i)).run : Nat))]) (i := 0) ⟨rfl, .un, by simp [stF, stI, lastD, bI]⟩ ?_ ?_)
  · rintro i d env o' hi ⟨rfl, s1, rfl⟩
    have hi2 : i < bs.length := by
      have := (List.getElem?_eq_some_iff.mp hi).1
      simpa using this
    have hb : bs[i]? = some bs[i] := List.getElem?_eq_getElem hi2
    rw [bI_get hb] at hi
    cases hi
    refine ⟨_, rfl, ?_⟩
    rw [Nat.zero_add]
    have e2 : stF (bs.take (i + 1)) = stS (stF (bs.take i)) bs[i] := by rw [List.take_add_one, hb]; exact stF_snoc _ _
    rw [e2]
    have ha := stF_acc_le bs i
    have hr := stF_run (bs.take i)
    generalize stF (bs.take i) = t at *
    generalize bs[i] = b at *
    obtain ⟨acc, last, run⟩ := t
    simp only at ha hr
    have e3 := behind_run last run b n o'
    have e4 := other_ok b n o'
    have h1 : acc.length < 16777216 := by omega
    have h2 : acc.length + 1 < 16777216 := by omega
    have hrb := rbB_le (last := last) (b := b) hr
    unfold stS
    simp only
    by_cases h5 : rbB last run b = 5
    · rw [h5] at e3
      rw [if_pos h5]
      rw [bI_app, bI_app]
      simp [w_stuffed_0, e3, e4, h1, h2]
      exact ⟨rfl, rfl⟩
    · have h5' : ¬ ((rbB last run b : Nat) : Int) = 5 := by omega
      rw [if_neg h5]
      rw [bI_app]
      simp [w_stuffed_0, e3, h1, h5']
      exact ⟨rfl, rfl⟩
  · rintro env o' ⟨rfl, s1, rfl⟩
    simp [stuffB]
/-! ### stuffed bits by the law -/
theorem noLs_ints : ∀ l : List Int, noLs (l.map D.int) = true
  | [] => rfl
  | _ :: r => by show (true && noLs (r.map D.int)) = true; rw [noLs_ints r]; rfl
theorem noLO_bx (s : Bx) : (bx s []).all noLO = true := by
  obtain ⟨c, a, b⟩ := s
  show (noLs (c.map D.int) && ((true && (true && (true && true))) && true)) = true
  rw [noLs_ints]; rfl
theorem bI_ints' (a : List Bool) : bI a = (a.map b2i).map .int := by simp [bI]
def sumB (a : List Bool) : Int := (a.map b2i).sum
theorem sum_bI (a : List Bool) : biD "sum" [.lst (bI a)] = some (.int (sumB a)) := by
  show (intsD (bI a)).map _ = _
  rw [bI_ints', intsD_map]; rfl
theorem sumB_count (a : List Bool) : sumB a = (a.count true : Nat) := by
  unfold sumB
  induction a with
  | nil => rfl
  | cons x a ih =>
    rw [List.map_cons, List.sum_cons, ih]
    cases x <;> simp [b2i]
    omega
theorem sumB_alike {a : List Bool} {m : Nat} (h : a.length = m) (hm : 1 ≤ m) : (sumB a = 0 ∨ sumB a = (m : Nat)) ↔ ∃ b, a = List.replicate m b := by
  rw [sumB_count]
  constructor
  · rintro (e | e)
    · refine ⟨false, List.eq_replicate_iff.mpr ⟨h, fun x hx => ?_⟩⟩
      have e : a.count true = 0 := by omega
      cases x with
      | false => rfl
      | true => exact absurd hx (List.count_eq_zero.mp e)
    · refine ⟨true, List.eq_replicate_iff.mpr ⟨h, fun x hx => ?_⟩⟩
      have e : a.count true = a.length := by omega
      exact (List.count_eq_length.mp e x hx).symm
  · rintro ⟨b, rfl⟩
    cases b
    · left; simp [List.count_replicate]
    · right; simp
theorem in2 (k a b : Int) : cmpD .In (.int k) (.tup [.int a, .int b]) = some (decide (k = a ∨ k = b)) := by
  show (if flatD (.int k) && [D.int a, D.int b].all flatD then some ([D.int a, D.int b].any fun y => feqD y (.int k)) else inDeep (.int k) [.int a, .int b]) = _
  rw [if_pos (show (flatD (.int k) && [D.int a, D.int b].all flatD) = true from rfl)]
  congr 1
  show ((a == k) || ((b == k) || false)) = _
  rw [Bool.or_false, Bool.decide_or]
  have e : ∀ x y : Int, (x == y) = decide (y = x) := fun x y => Bool.eq_iff_iff.mpr (by rw [beq_iff_eq, decide_eq_true_iff]; exact ⟨Eq.symm, Eq.symm⟩)
  rw [e, e]
theorem nin2 (k a b : Int) : cmpD .NotIn (.int k) (.tup [.int a, .int b]) = some (!decide (k = a ∨ k = b)) := by
  show (cmpD .In (.int k) (.tup [.int a, .int b])).map (!·) = _
  rw [in2]; rfl
theorem cut_m5 {ds : List D} (h : 5 ≤ ds.length) : cutD ds (some (-5)) none = ds.drop (ds.length - 5) := by
  unfold cutD
  have e : HT.sIx ds.length 0 (some (-5)) = ds.length - 5 := by
    show (if (-5 : Int) < 0 then ((-5 : Int) + (ds.length : Int)).toNat else min (-5 : Int).toNat ds.length) = _
    rw [if_pos (by decide)]; omega
  have e2 : HT.sIx ds.length ds.length none = ds.length := rfl
  rw [e, e2, List.take_of_length_le (by simp)]
theorem stF_RI (bs : List Bool) : RI (stF bs).acc (stF bs).last (stF bs).run := by
  induction bs using snoc_ind with
  | h0 => exact RI.start
  | h1 l a ih =>
    rw [stF_snoc]; unfold stS
    have h := ih.step a
    split
    · have h2 := h.step (!a)
      have e : rbB (some a) (rbB (stF l).last (stF l).run a) (!a) = 1 := by unfold rbB; rw [if_neg (by simp)]
      rw [e] at h2; exact h2
    · exact h
/-- the test of the last five -/
theorem last5 (a : List Bool) (h : 5 ≤ a.length) : (sumB (a.drop (a.length - 5)) = 0 ∨ sumB (a.drop (a.length - 5)) = 5) ↔ Alike 5 a := by
  have := sumB_alike (a := a.drop (a.length - 5)) (m := 5) (by simp; omega) (by decide)
  unfold Alike
  constructor
  · intro q; exact ⟨h, this.mp q⟩
  · intro q; exact this.mpr q.2
abbrev five : E := .bor 1 (.con (.cons (.cmp .Gt (.bi "len" (.cons (.var 1) .nil)) (.lit (.int 4))) (.cons (.cmp .In (.bi "sum" (.cons (.sl (.var 1) (.some (.neg (.lit (.int 5)))) .none) .nil)) (.tup (.cons (.lit (.int 0)) (.cons (.lit (.int 5)) .nil)))) .nil)))
open Classical in
theorem five_ok (a : List Bool) (e0 e2 : Sl) (n : Nat) (o : Obs) (ho : o.all noLO = true) : denT (Fc n) Gl five [e0, .ol (bI a), e2] o = .ok (decide (Alike 5 a)) o := by
  by_cases h4 : 5 ≤ a.length
  · have cu := cut_m5 (ds := bI a) (by rw [bI_len]; exact h4)
    rw [show (bI a).drop ((bI a).length - 5) = bI (a.drop (a.length - 5)) from by rw [bI_len]; simp [bI, List.map_drop]] at cu
    have su := sum_bI (a.drop (a.length - 5))
    have l5 := last5 a h4
    have iq := in2 (sumB (a.drop (a.length - 5))) 0 5
    generalize a.drop (a.length - 5) = z at *
    have h4' : (4 : Int) < a.length := by omega
    have hd : decide (sumB z = 0 ∨ sumB z = 5) = decide (Alike 5 a) := decide_eq_decide.mpr l5
    rw [hd] at iq
    simp only [five]
    simp [h4', cu, su, iq, ho]
  · have h4' : ¬ (4 : Int) < a.length := by omega
    have hn : ¬ Alike 5 a := fun z => h4 z.1
    simp only [five]
    simp [h4', hn, ho]
theorem law_stuffed_ok (X : D) (bs : List Bool) (hX : seqD X = some (bI bs)) (hl : bs.length < 1000000) (n : Nat) (o : Obs) (ho : o.all noLO = true) : Fc (n + 1) "_law_stuffed" [X] o = .ok (.lst (bI (stuffB bs))) o := by
  classical
  rw [r__law_stuffed]
  simp [m__law_stuffed, hX]
  refine endR_seq (forD_wp (fun i env o' => o' = o ∧ ∃ s2, env = [.v X, .ol (bI (stF (bs.take i)).acc), s2]) (i := 0) ⟨rfl, .un, by simp [stF, stI, bI]⟩ ?_ ?_)
  · rintro i d env o' hi ⟨rfl, s2, rfl⟩
    have hi2 : i < bs.length := by
      have := (List.getElem?_eq_some_iff.mp hi).1
      simpa using this
    have hb : bs[i]? = some bs[i] := List.getElem?_eq_getElem hi2
    rw [bI_get hb] at hi
    cases hi
    refine ⟨_, rfl, ?_⟩
    rw [Nat.zero_add]
    have e2 : stF (bs.take (i + 1)) = stS (stF (bs.take i)) bs[i] := by rw [List.take_add_one, hb]; exact stF_snoc _ _
    rw [e2]
    have ha := stF_acc_le bs i
    have hr := stF_run (bs.take i)
    have hRI := stF_RI (bs.take i)
    generalize stF (bs.take i) = t at *
    generalize bs[i] = b at *
    obtain ⟨acc, last, run⟩ := t
    simp only at ha hr hRI
    have h1 : acc.length < 16777216 := by omega
    have h2 : acc.length + 1 < 16777216 := by omega
    have al := (hRI.step b).alike (m := 5) (by decide)
    have hrb := rbB_le (last := last) (b := b) hr
    have nb : (1 : Int) - b2i b = b2i (!b) := by cases b <;> rfl
    have fv := five_ok (acc ++ [b]) (.v X) (.v (.int (b2i b))) n o' ho
    rw [bI_app, show bI [b] = [D.int (b2i b)] from rfl] at fv
    unfold stS
    simp only
    by_cases h5 : rbB last run b = 5
    · rw [decide_eq_true (al.mpr (by omega))] at fv
      rw [if_pos h5, bI_app, bI_app]
      simp only [five] at fv
      simp [w__law_stuffed_0, h1, h2, fv, nb]
      rfl
    · rw [decide_eq_false (fun z => h5 (by have := al.mp z; omega))] at fv
      rw [if_neg h5, bI_app]
      simp only [five] at fv
      simp [w__law_stuffed_0, h1, fv]
      rfl
  · rintro env o' ⟨rfl, s2, rfl⟩
    simp [stuffB]
/-! ### frames read off their bits, over bits alone -/
/-- the number of the s bits from a on -/
def Nf (r : Nat → Bool) (a : Nat) : Nat → Nat
  | 0 => 0
  | s + 1 => 2 * Nf r a s + (r (a + s)).toNat
theorem Nf_lt (r : Nat → Bool) (a : Nat) : ∀ s, Nf r a s < 2 ^ s
  | 0 => by simp [Nf]
  | s + 1 => by
    have := Nf_lt r a s
    have h : (r (a + s)).toNat ≤ 1 := Bool.toNat_le _
    unfold Nf
    rw [Nat.pow_succ]; omega
theorem Nf_congr {r t : Nat → Bool} {a : Nat} : ∀ {s : Nat}, (∀ k, k < s → r (a + k) = t (a + k)) → Nf r a s = Nf t a s
  | 0, _ => rfl
  | s + 1, h => by
    unfold Nf
    rw [Nf_congr (s := s) fun k hk => h k (by omega), h s (by omega)]
theorem bitsB_succ (x s : Nat) : bitsB x (s + 1) = bitsB (x / 2) s ++ [x.testBit 0] := by
  unfold bitsB
  rw [List.range_succ, List.map_append]
  congr 1
  · apply List.map_congr_left
    intro k hk
    have hk := List.mem_range.mp hk
    rw [show s + 1 - 1 - k = (s - 1 - k) + 1 from by omega, Nat.testBit_succ]
  · simp
theorem bitsB_Nf (r : Nat → Bool) (a : Nat) : ∀ s, bitsB (Nf r a s) s = (List.range s).map fun k => r (a + k)
  | 0 => rfl
  | s + 1 => by
    have h1 : (2 * Nf r a s + (r (a + s)).toNat) / 2 = Nf r a s := by
      have h : (r (a + s)).toNat ≤ 1 := Bool.toNat_le _
      omega
    have h2 : (2 * Nf r a s + (r (a + s)).toNat).testBit 0 = r (a + s) := by
      rw [Nat.testBit_zero]
      cases r (a + s) <;> simp <;> omega
    unfold Nf
    rw [bitsB_succ, h1, h2, bitsB_Nf r a s, List.range_succ, List.map_append]; rfl
theorem bitsB_get (x s k : Nat) (h : k < s) : (bitsB x s)[k]? = some (x.testBit (s - 1 - k)) := by
  unfold bitsB
  rw [List.getElem?_map, List.getElem?_range h]; rfl
theorem Nf_bits {x s : Nat} (hx : x < 2 ^ s) {r : Nat → Bool} {a : Nat} (h : ∀ k, k < s → r (a + k) = x.testBit (s - 1 - k)) : Nf r a s = x := by
  have e : bitsB (Nf r a s) s = bitsB x s := by
    rw [bitsB_Nf]
    unfold bitsB
    exact List.map_congr_left fun k hk => h k (List.mem_range.mp hk)
  apply Nat.eq_of_testBit_eq
  intro i
  by_cases hi : i < s
  · have h1 := bitsB_get (Nf r a s) s (s - 1 - i) (by omega)
    have h2 := bitsB_get x s (s - 1 - i) (by omega)
    rw [e, h2] at h1
    have := Option.some.inj h1
    rw [show s - 1 - (s - 1 - i) = i from by omega] at this
    exact this.symm
  · have hp : 2 ^ s ≤ 2 ^ i := Nat.pow_le_pow_right (by decide) (by omega)
    rw [Nat.testBit_lt_two_pow (Nat.lt_of_lt_of_le (Nf_lt r a s) hp), Nat.testBit_lt_two_pow (Nat.lt_of_lt_of_le hx hp)]
/-- the bits of a row, off beyond it -/
def rho (p : List Bool) (i : Nat) : Bool := p.getD i false
theorem rho_get {p : List Bool} {i : Nat} {b : Bool} (h : p[i]? = some b) : rho p i = b := by unfold rho; rw [List.getD_eq_getElem?_getD, h]; rfl
theorem rho_off {p : List Bool} {i : Nat} (h : p.length ≤ i) : rho p i = false := by unfold rho; rw [List.getD_eq_getElem?_getD, List.getElem?_eq_none h]; rfl
def headN (l : Bool) : Nat := if l then 39 else 19
def askN (l : Bool) : Nat := if l then 32 else 12
/-- the frame that the law fills -/
def fillR (r : Nat → Bool) : Frm where
  num := if r 13 then Nf r 1 11 * 262144 + Nf r 14 18 else Nf r 1 11
  lng := r 13
  ask := r (askN (r 13))
  data := if r (askN (r 13)) then [] else (List.range (min 8 (Nf r (headN (r 13) - 4) 4))).map fun k => Nf r (headN (r 13) + 8 * k) 8
theorem fillR_ok (r : Nat → Bool) : (fillR r).Ok := by
  refine ⟨?_, ?_, ?_, ?_⟩
  · have h1 := Nf_lt r 1 11
    have h2 := Nf_lt r 14 18
    show (if r 13 then _ else _) ≤ (if r 13 then _ else _)
    cases r 13 <;> simp <;> omega
  · show (if r (askN (r 13)) then [] else _).length ≤ 8
    split
    · simp
    · simp; omega
  · intro b hb
    have hb : b ∈ (if r (askN (r 13)) then [] else (List.range (min 8 (Nf r (headN (r 13) - 4) 4))).map fun k => Nf r (headN (r 13) + 8 * k) 8) := hb
    split at hb
    · cases hb
    · obtain ⟨k, _, rfl⟩ := List.mem_map.mp hb
      exact Nf_lt r _ 8
  · intro h
    show (if r (askN (r 13)) then [] else _) = []
    rw [if_pos (show r (askN (r 13)) = true from h)]
/-- the bits of the body that the law fills, one by one -/
def lenN (r : Nat → Bool) : Nat := if r (askN (r 13)) then 0 else min 8 (Nf r (headN (r 13) - 4) 4)
def Gb (r : Nat → Bool) (i : Nat) : Bool :=
  if r 13 then (if i = 0 then false else if i < 12 then r i else if i < 14 then true else if i < 33 then r i else if i < 35 then false else if i < 39 then (lenN r).testBit (38 - i) else r i)
  else (if i = 0 then false else if i < 13 then r i else if i < 15 then false else if i < 19 then (lenN r).testBit (18 - i) else r i)
theorem Gb_0 (r : Nat → Bool) : Gb r 0 = false := by unfold Gb; cases r 13 <;> rfl
theorem Gb_num {r : Nat → Bool} {i : Nat} (h1 : 1 ≤ i) (h2 : i < 12) : Gb r i = r i := by
  unfold Gb
  cases r 13
  · simp only [Bool.false_eq_true, if_false]; rw [if_neg (by omega), if_pos (by omega)]
  · simp only [if_true]; rw [if_neg (by omega), if_pos h2]
theorem Gb_l2 {r : Nat → Bool} {i : Nat} (h : r 13 = true) (h1 : 12 ≤ i) (h2 : i < 14) : Gb r i = true := by
  unfold Gb; rw [h]; simp only [if_true]; rw [if_neg (by omega), if_neg (by omega), if_pos h2]
theorem Gb_lo {r : Nat → Bool} {i : Nat} (h : r 13 = true) (h1 : 14 ≤ i) (h2 : i < 33) : Gb r i = r i := by
  unfold Gb; rw [h]; simp only [if_true]; rw [if_neg (by omega), if_neg (by omega), if_neg (by omega), if_pos h2]
theorem Gb_l0 {r : Nat → Bool} {i : Nat} (h : r 13 = true) (h1 : 33 ≤ i) (h2 : i < 35) : Gb r i = false := by
  unfold Gb; rw [h]; simp only [if_true]; rw [if_neg (by omega), if_neg (by omega), if_neg (by omega), if_neg (by omega), if_pos h2]
theorem Gb_llen {r : Nat → Bool} {i : Nat} (h : r 13 = true) (h1 : 35 ≤ i) (h2 : i < 39) : Gb r i = (lenN r).testBit (38 - i) := by
  unfold Gb; rw [h]; simp only [if_true]; rw [if_neg (by omega), if_neg (by omega), if_neg (by omega), if_neg (by omega), if_neg (by omega), if_pos h2]
theorem Gb_s12 {r : Nat → Bool} (h : r 13 = false) : Gb r 12 = r 12 := by unfold Gb; rw [h]; rfl
theorem Gb_s0 {r : Nat → Bool} {i : Nat} (h : r 13 = false) (h1 : 13 ≤ i) (h2 : i < 15) : Gb r i = false := by
  unfold Gb; rw [h]; simp only [Bool.false_eq_true, if_false]; rw [if_neg (by omega), if_neg (by omega), if_pos h2]
theorem Gb_slen {r : Nat → Bool} {i : Nat} (h : r 13 = false) (h1 : 15 ≤ i) (h2 : i < 19) : Gb r i = (lenN r).testBit (18 - i) := by
  unfold Gb; rw [h]; simp only [Bool.false_eq_true, if_false]; rw [if_neg (by omega), if_neg (by omega), if_neg (by omega), if_pos h2]
theorem Gb_data {r : Nat → Bool} {i : Nat} (h : headN (r 13) ≤ i) : Gb r i = r i := by
  unfold Gb
  unfold headN at h
  cases hr : r 13 with
  | true =>
    rw [hr] at h
    simp only [if_true] at h ⊢
    rw [if_neg (by omega), if_neg (by omega), if_neg (by omega), if_neg (by omega), if_neg (by omega), if_neg (by omega)]
  | false =>
    rw [hr] at h
    simp only [Bool.false_eq_true, if_false] at h ⊢
    rw [if_neg (by omega), if_neg (by omega), if_neg (by omega), if_neg (by omega)]
theorem app2 {a b c d : List Bool} (h : a = b) (g : c = d) : a ++ c = b ++ d := by rw [h, g]
theorem range_split (a b : Nat) {f : Nat → Bool} : (List.range (a + b)).map f = (List.range a).map f ++ (List.range b).map fun k => f (a + k) := by
  rw [List.range_add, List.map_append, List.map_map]; rfl
theorem data_len (r : Nat → Bool) : (fillR r).data.length = lenN r := by
  show (if r (askN (r 13)) then [] else _).length = _
  unfold lenN
  split <;> simp
theorem bytes_Nf (r : Nat → Bool) (a : Nat) : ∀ m, bytesB ((List.range m).map fun k => Nf r (a + 8 * k) 8) = (List.range (8 * m)).map fun k => r (a + k)
  | 0 => rfl
  | m + 1 => by
    rw [List.range_succ, List.map_append]
    unfold bytesB
    rw [List.flatMap_append]
    have := bytes_Nf r a m
    unfold bytesB at this
    rw [this, show 8 * (m + 1) = 8 * m + 8 from by omega, range_split]
    congr 1
    simp only [List.map_cons, List.map_nil, List.flatMap_cons, List.flatMap_nil, List.append_nil]
    rw [bitsB_Nf]
    apply List.map_congr_left
    intro k _
    congr 1; omega
theorem fill_body (r : Nat → Bool) : bodyB (fillR r) = (List.range (headN (r 13) + 8 * lenN r)).map (Gb r) := by
  have hd : bytesB (fillR r).data = (List.range (8 * lenN r)).map fun k => r (headN (r 13) + k) := by
    show bytesB (if r (askN (r 13)) then [] else _) = _
    unfold lenN
    split
    · rfl
    · exact bytes_Nf r _ _
  have hl := data_len r
  unfold bodyB headB turnB
  rw [hd, hl]
  cases h13 : r 13 with
  | true =>
    have e1 : (fillR r).num / 262144 = Nf r 1 11 := by
      have := Nf_lt r 14 18
      show (if r 13 then Nf r 1 11 * 262144 + Nf r 14 18 else Nf r 1 11) / 262144 = _
      rw [h13]; simp; omega
    have e2 : (fillR r).num % 262144 = Nf r 14 18 := by
      have := Nf_lt r 14 18
      show (if r 13 then Nf r 1 11 * 262144 + Nf r 14 18 else Nf r 1 11) % 262144 = _
      rw [h13]; simp; omega
    have e3 : (fillR r).lng = true := h13
    have e4 : (fillR r).ask = r 32 := by show r (askN (r 13)) = _; rw [h13]; rfl
    rw [e1, e2, e3, e4, bitsB_Nf, bitsB_Nf]
    show _ = (List.range (39 + 8 * lenN r)).map (Gb r)
    rw [range_split]
    refine app2 ?_ (List.map_congr_left fun k _ => by rw [Gb_data (by rw [h13]; show 39 ≤ 39 + k; omega)]; rfl)
    rw [show (39 : Nat) = 1 + (11 + (2 + (18 + (1 + (2 + 4))))) from rfl, range_split, range_split, range_split, range_split, range_split, range_split]
    simp only [if_true, List.append_assoc]
    refine app2 (by simp [List.range_succ, Gb_0]) (app2 (List.map_congr_left fun k hk => ?_) (app2 ?_ (app2 (List.map_congr_left fun k hk => ?_) (app2 ?_ (app2 ?_ (List.map_congr_left fun k hk => ?_))))))
    · have := List.mem_range.mp hk
      rw [Gb_num (by omega) (by omega)]
    · simp [List.range_succ, Gb_l2 (i := 12) h13 (by decide) (by decide), Gb_l2 (i := 13) h13 (by decide) (by decide)]
    · have := List.mem_range.mp hk
      rw [Gb_lo h13 (by omega) (by omega)]
      congr 1; omega
    · simp [List.range_succ, Gb_lo (i := 32) h13 (by decide) (by decide)]
    · simp [List.range_succ, Gb_l0 (i := 33) h13 (by decide) (by decide), Gb_l0 (i := 34) h13 (by decide) (by decide)]
    · have := List.mem_range.mp hk
      rw [Gb_llen h13 (by omega) (by omega)]
      congr 1; omega
  | false =>
    have e1 : (fillR r).num = Nf r 1 11 := by
      show (if r 13 then Nf r 1 11 * 262144 + Nf r 14 18 else Nf r 1 11) = _
      rw [h13]; rfl
    have e3 : (fillR r).lng = false := h13
    have e4 : (fillR r).ask = r 12 := by show r (askN (r 13)) = _; rw [h13]; rfl
    rw [e1, e3, e4, bitsB_Nf]
    show _ = (List.range (19 + 8 * lenN r)).map (Gb r)
    rw [range_split]
    refine app2 ?_ (List.map_congr_left fun k _ => by rw [Gb_data (by rw [h13]; show 19 ≤ 19 + k; omega)]; rfl)
    rw [show (19 : Nat) = 1 + (11 + (2 + (1 + 4))) from rfl, range_split, range_split, range_split, range_split]
    simp only [Bool.false_eq_true, if_false, List.append_assoc]
    refine app2 (by simp [List.range_succ, Gb_0]) (app2 (List.map_congr_left fun k hk => ?_) (app2 ?_ (app2 ?_ (List.map_congr_left fun k hk => ?_))))
    · have := List.mem_range.mp hk
      rw [Gb_num (by omega) (by omega)]
    · simp [List.range_succ, Gb_s12 h13, Gb_s0 (i := 13) h13 (by decide) (by decide)]
    · simp [List.range_succ, Gb_s0 (i := 14) h13 (by decide) (by decide)]
    · have := List.mem_range.mp hk
      rw [Gb_slen h13 (by omega) (by omega)]
      congr 1; omega
/-! ### which rows of bits begin frames -/
theorem at_app {A B : List Bool} {n k : Nat} (h : A.length = n) : (A ++ B)[n + k]? = B[k]? := by
  rw [List.getElem?_append_right (by omega), h]; congr 1; omega
theorem at_left {A B : List Bool} {k : Nat} (h : k < A.length) : (A ++ B)[k]? = A[k]? := List.getElem?_append_left h
theorem bytes_at : ∀ {l : List Nat} {j k : Nat} {x : Nat}, l[j]? = some x → k < 8 → (bytesB l)[8 * j + k]? = some (x.testBit (7 - k))
  | [], _, _, _, h, _ => by simp at h
  | y :: l, 0, k, x, h, hk => by
    have : y = x := by simpa using h
    subst this
    show (bitsB y 8 ++ bytesB l)[8 * 0 + k]? = _
    rw [Nat.mul_zero, Nat.zero_add, at_left (by simpa [bitsB] using hk), bitsB_get _ _ _ hk]
  | y :: l, j + 1, k, x, h, hk => by
    show (bitsB y 8 ++ bytesB l)[8 * (j + 1) + k]? = _
    rw [show 8 * (j + 1) + k = 8 + (8 * j + k) from by omega, at_app (by simp [bitsB])]
    exact bytes_at (by simpa using h) hk
/-- a frame is read off its body -/
theorem fill_of {f : Frm} (hf : f.Ok) {r : Nat → Bool} (h : ∀ i b, (bodyB f)[i]? = some b → r i = b) : fillR r = f := by
  obtain ⟨num, lng, ask, data⟩ := f
  obtain ⟨h1, h2, h3, h4⟩ := hf
  simp only at h1 h2 h3 h4
  have hlen : ∀ a, (∀ k, k < 4 → r (a + k) = data.length.testBit (3 - k)) → Nf r a 4 = data.length := fun a q => Nf_bits (by omega) q
  have hdata : ∀ a, (∀ j k x, data[j]? = some x → k < 8 → r (a + 8 * j + k) = x.testBit (7 - k)) → (List.range data.length).map (fun k => Nf r (a + 8 * k) 8) = data := fun a q => by
    apply List.ext_getElem?
    intro j
    rw [List.getElem?_map]
    by_cases hj : j < data.length
    · rw [List.getElem?_range hj, List.getElem?_eq_getElem hj]
      simp only [Option.map_some]
      rw [Nf_bits (x := data[j]) (h3 _ (List.getElem_mem hj)) fun k hk => q j k _ (List.getElem?_eq_getElem hj) hk]
    · rw [List.getElem?_eq_none (by simp; omega), List.getElem?_eq_none (by omega)]; rfl
  cases lng with
  | true =>
    have hn : num ≤ 536870911 := h1
    have e : bodyB ⟨num, true, ask, data⟩ = [false] ++ (bitsB (num / 262144) 11 ++ ([true, true] ++ (bitsB (num % 262144) 18 ++ ([ask] ++ ([false, false] ++ (bitsB data.length 4 ++ bytesB data)))))) := by
      unfold bodyB headB turnB; simp
    rw [e] at h
    have b1 : ∀ k, k < 11 → r (1 + k) = (num / 262144).testBit (10 - k) := fun k hk => h _ _ (by rw [at_app (by rfl), at_left (by simpa [bitsB] using hk), bitsB_get _ _ _ hk])
    have b13 : r 13 = true := h _ _ (by rw [show 13 = 1 + (11 + 1) from rfl, at_app (by rfl), at_app (by simp [bitsB])]; rfl)
    have b2 : ∀ k, k < 18 → r (14 + k) = (num % 262144).testBit (17 - k) := fun k hk => h _ _ (by rw [show 14 + k = 1 + (11 + (2 + k)) from by omega, at_app (by rfl), at_app (by simp [bitsB]), at_app (by rfl), at_left (by simpa [bitsB] using hk), bitsB_get _ _ _ hk])
    have b32 : r 32 = ask := h _ _ (by rw [show 32 = 1 + (11 + (2 + (18 + 0))) from rfl, at_app (by rfl), at_app (by simp [bitsB]), at_app (by rfl), at_app (by simp [bitsB])]; rfl)
    have b35 : ∀ k, k < 4 → r (35 + k) = data.length.testBit (3 - k) := fun k hk => h _ _ (by rw [show 35 + k = 1 + (11 + (2 + (18 + (1 + (2 + k))))) from by omega, at_app (by rfl), at_app (by simp [bitsB]), at_app (by rfl), at_app (by simp [bitsB]), at_app (by rfl), at_app (by rfl), at_left (by simpa [bitsB] using hk), bitsB_get _ _ _ hk])
    have b39 : ∀ j k x, data[j]? = some x → k < 8 → r (39 + 8 * j + k) = x.testBit (7 - k) := fun j k x hx hk => h _ _ (by rw [show 39 + 8 * j + k = 1 + (11 + (2 + (18 + (1 + (2 + (4 + (8 * j + k))))))) from by omega, at_app (by rfl), at_app (by simp [bitsB]), at_app (by rfl), at_app (by simp [bitsB]), at_app (by rfl), at_app (by rfl), at_app (by simp [bitsB]), bytes_at hx hk])
    have n1 : Nf r 1 11 = num / 262144 := Nf_bits (by omega) b1
    have n2 : Nf r 14 18 = num % 262144 := Nf_bits (by omega) b2
    unfold fillR
    rw [b13]
    show Frm.mk (if true = true then Nf r 1 11 * 262144 + Nf r 14 18 else Nf r 1 11) true (r 32) (if r 32 = true then [] else (List.range (min 8 (Nf r 35 4))).map fun k => Nf r (39 + 8 * k) 8) = _
    rw [if_pos rfl, n1, n2, b32, hlen 35 b35, show min 8 data.length = data.length from by omega, hdata 39 b39]
    congr 1
    · omega
    · cases ask with
      | true => rw [if_pos rfl, h4 rfl]
      | false => rfl
  | false =>
    have hn : num ≤ 2047 := h1
    have e : bodyB ⟨num, false, ask, data⟩ = [false] ++ (bitsB num 11 ++ ([ask, false] ++ ([false] ++ (bitsB data.length 4 ++ bytesB data)))) := by
      unfold bodyB headB turnB; simp
    rw [e] at h
    have b1 : ∀ k, k < 11 → r (1 + k) = num.testBit (10 - k) := fun k hk => h _ _ (by rw [at_app (by rfl), at_left (by simpa [bitsB] using hk), bitsB_get _ _ _ hk])
    have b12 : r 12 = ask := h _ _ (by rw [show 12 = 1 + (11 + 0) from rfl, at_app (by rfl), at_app (by simp [bitsB])]; rfl)
    have b13 : r 13 = false := h _ _ (by rw [show 13 = 1 + (11 + 1) from rfl, at_app (by rfl), at_app (by simp [bitsB])]; rfl)
    have b15 : ∀ k, k < 4 → r (15 + k) = data.length.testBit (3 - k) := fun k hk => h _ _ (by rw [show 15 + k = 1 + (11 + (2 + (1 + k))) from by omega, at_app (by rfl), at_app (by simp [bitsB]), at_app (by rfl), at_app (by rfl), at_left (by simpa [bitsB] using hk), bitsB_get _ _ _ hk])
    have b19 : ∀ j k x, data[j]? = some x → k < 8 → r (19 + 8 * j + k) = x.testBit (7 - k) := fun j k x hx hk => h _ _ (by rw [show 19 + 8 * j + k = 1 + (11 + (2 + (1 + (4 + (8 * j + k))))) from by omega, at_app (by rfl), at_app (by simp [bitsB]), at_app (by rfl), at_app (by rfl), at_app (by simp [bitsB]), bytes_at hx hk])
    have n1 : Nf r 1 11 = num := Nf_bits (by omega) b1
    unfold fillR
    rw [b13]
    show Frm.mk (if false = true then Nf r 1 11 * 262144 + Nf r 14 18 else Nf r 1 11) false (r 12) (if r 12 = true then [] else (List.range (min 8 (Nf r 15 4))).map fun k => Nf r (19 + 8 * k) 8) = _
    rw [if_neg (by simp), n1, b12, hlen 15 b15, show min 8 data.length = data.length from by omega, hdata 19 b19]
    congr 1
    cases ask with
    | true => rw [if_pos rfl, h4 rfl]
    | false => rfl
theorem rho_pre {p X : List Bool} (h : p <+: X) {j : Nat} (hj : j < p.length) : rho p j = rho X j := by
  obtain ⟨r, rfl⟩ := h
  unfold rho
  rw [List.getD_eq_getElem?_getD, List.getD_eq_getElem?_getD, List.getElem?_append_left hj]
theorem fill_pre {f : Frm} (hf : f.Ok) {p : List Bool} (h : bodyB f <+: p) : fillR (rho p) = f := fill_of hf fun i b hb => by
  have hi := (List.getElem?_eq_some_iff.mp hb).1
  rw [← rho_pre h hi]
  exact rho_get hb
/-- what bits that begin a frame keep -/
structure Cond (r : Nat → Bool) (L : Nat) : Prop where
  c0 : r 0 = false
  c13 : r 13 = true → r 12 = true
  cz : ∀ j, askN (r 13) < j → j < headN (r 13) - 4 → r j = false
  cl : r (askN (r 13)) = true → ∀ j, headN (r 13) - 4 ≤ j → j < headN (r 13) → r j = false
  c8 : Nf r (headN (r 13) - 4) 4 ≤ 8
  cb : L ≤ headN (r 13) + 8 * lenN r
theorem Nf_zero {r : Nat → Bool} {a s : Nat} (h : ∀ k, k < s → r (a + k) = false) : Nf r a s = 0 := Nf_bits (Nat.two_pow_pos s) fun k hk => by rw [h k hk]; simp
theorem Nf_mono {r t : Nat → Bool} {a : Nat} : ∀ {s : Nat}, (∀ k, k < s → r (a + k) = true → t (a + k) = true) → Nf r a s ≤ Nf t a s
  | 0, _ => Nat.le_refl _
  | s + 1, h => by
    have h1 := Nf_mono (s := s) fun k hk => h k (by omega)
    have h2 := h s (by omega)
    unfold Nf
    cases q : r (a + s)
    · simp; omega
    · rw [h2 q]; simp; omega
theorem headN_le (l : Bool) : 19 ≤ headN l := by cases l <;> decide
theorem Cond.len {r : Nat → Bool} {L : Nat} (c : Cond r L) : lenN r = Nf r (headN (r 13) - 4) 4 := by
  unfold lenN
  have hh := headN_le (r 13)
  by_cases h : r (askN (r 13)) = true
  · rw [if_pos h, Nf_zero fun k hk => c.cl h _ (by omega) (by omega)]
  · rw [if_neg h]
    have := c.c8
    omega
theorem Nf_bit (r : Nat → Bool) (a : Nat) {k : Nat} (hk : k < 4) : (Nf r a 4).testBit (3 - k) = r (a + k) := by
  have h1 := bitsB_get (Nf r a 4) 4 k hk
  rw [bitsB_Nf, List.getElem?_map, List.getElem?_range hk] at h1
  exact (Option.some.inj h1).symm
theorem Cond.G {r : Nat → Bool} {L : Nat} (c : Cond r L) (j : Nat) : Gb r j = r j := by
  have hl := c.len
  cases h13 : r 13 with
  | true =>
    rw [h13] at hl
    have hz := c.cz
    rw [h13] at hz
    by_cases h0 : j = 0
    · rw [h0, Gb_0, c.c0]
    · by_cases h1 : j < 12
      · exact Gb_num (by omega) h1
      · by_cases h2 : j < 14
        · rw [Gb_l2 h13 (by omega) h2]
          have : j = 12 ∨ j = 13 := by omega
          rcases this with rfl | rfl
          · exact (c.c13 h13).symm
          · exact h13.symm
        · by_cases h3 : j < 33
          · exact Gb_lo h13 (by omega) h3
          · by_cases h4 : j < 35
            · rw [Gb_l0 h13 (by omega) h4]
              exact (hz j (by show 32 < j; omega) (by show j < 39 - 4; omega)).symm
            · by_cases h5 : j < 39
              · rw [Gb_llen h13 (by omega) h5, hl, show 38 - j = 3 - (j - 35) from by omega, show headN true - 4 = 35 from rfl, Nf_bit _ _ (by omega)]
                congr 1; omega
              · exact Gb_data (by rw [h13]; show 39 ≤ j; omega)
  | false =>
    rw [h13] at hl
    have hz := c.cz
    rw [h13] at hz
    by_cases h0 : j = 0
    · rw [h0, Gb_0, c.c0]
    · by_cases h1 : j < 12
      · exact Gb_num (by omega) h1
      · by_cases h2 : j = 12
        · rw [h2]; exact Gb_s12 h13
        · by_cases h4 : j < 15
          · rw [Gb_s0 h13 (by omega) h4]
            exact (hz j (by show 12 < j; omega) (by show j < 19 - 4; omega)).symm
          · by_cases h5 : j < 19
            · rw [Gb_slen h13 (by omega) h5, hl, show 18 - j = 3 - (j - 15) from by omega, show headN false - 4 = 15 from rfl, Nf_bit _ _ (by omega)]
              congr 1; omega
            · exact Gb_data (by rw [h13]; show 19 ≤ j; omega)
theorem body_len (r : Nat → Bool) : (bodyB (fillR r)).length = headN (r 13) + 8 * lenN r := by rw [fill_body]; simp
theorem Cond.pre {q : List Bool} (c : Cond (rho q) q.length) : q <+: bodyB (fillR (rho q)) := by
  rw [List.prefix_iff_eq_take]
  apply List.ext_getElem?
  intro j
  rw [List.getElem?_take]
  by_cases hj : j < q.length
  · rw [if_pos hj, fill_body, List.getElem?_map, List.getElem?_range (Nat.lt_of_lt_of_le hj c.cb)]
    simp only [Option.map_some]
    rw [c.G, List.getElem?_eq_getElem hj, rho_get (List.getElem?_eq_getElem hj)]
  · rw [if_neg hj, List.getElem?_eq_none (by omega)]
/-! ### which bit is due -/
theorem rho_snoc {p : List Bool} {b : Bool} (j : Nat) : rho (p ++ [b]) j = if j = p.length then b else rho p j := by
  unfold rho
  rw [List.getD_eq_getElem?_getD, List.getD_eq_getElem?_getD]
  by_cases h : j = p.length
  · subst h; rw [if_pos rfl, List.getElem?_append_right (Nat.le_refl _)]; simp
  · rw [if_neg h]
    by_cases h2 : j < p.length
    · rw [List.getElem?_append_left h2]
    · rw [List.getElem?_eq_none (by simp; omega), List.getElem?_eq_none (by omega)]
theorem askN_lt (l : Bool) : askN l < headN l - 4 := by cases l <;> decide
theorem body_frame {f : Frm} (hf : f.Ok) : fillR (rho (bodyB f)) = f := fill_pre hf (List.prefix_refl _)
/-- beginnings of bodies keep it -/
theorem cond_of {f : Frm} (hf : f.Ok) {q : List Bool} (h : q <+: bodyB f) : Cond (rho q) q.length := by
  have hb := body_frame hf
  obtain ⟨t, ht⟩ : ∃ t, t = rho (bodyB f) := ⟨_, rfl⟩
  rw [← ht] at hb
  have hsz : (bodyB f).length = headN (t 13) + 8 * lenN t := by rw [← hb, body_len]
  have hG : ∀ j, j < (bodyB f).length → t j = Gb t j := fun j hj => by
    have h1 : (bodyB f)[j]? = some (Gb t j) := by
      have : (bodyB (fillR t))[j]? = some (Gb t j) := by
        rw [fill_body, List.getElem?_map, List.getElem?_range (by rw [← hsz]; exact hj)]; rfl
      rw [hb] at this; exact this
    have h2 := rho_get h1
    rw [← ht] at h2; exact h2
  have hl := headN_le (t 13)
  have hlen : q.length ≤ (bodyB f).length := h.length_le
  have hr : ∀ j, j < q.length → rho q j = t j := fun j hj => by rw [ht]; exact rho_pre h hj
  have ho : ∀ j, q.length ≤ j → rho q j = false := fun j hj => rho_off hj
  generalize rho q = r at hr ho
  generalize q.length = L at *
  have n4 : Nf t (headN (t 13) - 4) 4 = lenN t := by
    refine Nf_bits ?_ fun k hk => ?_
    · unfold lenN; split <;> omega
    · rw [hG _ (by omega)]
      cases h13 : t 13 with
      | true => rw [show headN true - 4 = 35 from rfl, Gb_llen h13 (by omega) (by omega)]; congr 1; omega
      | false => rw [show headN false - 4 = 15 from rfl, Gb_slen h13 (by omega) (by omega)]; congr 1; omega
  have l8 : lenN t ≤ 8 := by unfold lenN; split <;> omega
  have same : 13 < L → r 13 = t 13 := hr 13
  have short : ¬ 13 < L → r 13 = false := fun h => ho 13 (by omega)
  refine ⟨?_, fun h13 => ?_, fun j h1 h2 => ?_, fun ha j h1 h2 => ?_, ?_, ?_⟩
  · by_cases h0 : 0 < L
    · rw [hr 0 h0, hG 0 (by omega), Gb_0]
    · exact ho 0 (by omega)
  · have hL : 13 < L := Nat.lt_of_not_le fun z => by rw [ho 13 z] at h13; cases h13
    have ht13 := same hL
    rw [h13] at ht13
    rw [hr 12 (by omega), hG 12 (by omega), Gb_l2 ht13.symm (by decide) (by decide)]
  · by_cases hj : j < L
    · by_cases hL : 13 < L
      · have e := same hL
        rw [e] at h1 h2
        rw [hr j hj, hG j (by omega)]
        cases h13 : t 13 with
        | true => rw [h13] at h1 h2; exact Gb_l0 h13 h1 h2
        | false => rw [h13] at h1 h2; exact Gb_s0 h13 h1 h2
      · rw [short hL] at h1
        have : (12 : Nat) < j := h1
        omega
    · exact ho j (by omega)
  · by_cases hj : j < L
    · have hL : 13 < L := by
        have := headN_le (r 13)
        omega
      have e := same hL
      rw [e] at h1 h2 ha
      have hak := askN_lt (t 13)
      rw [hr _ (by omega)] at ha
      have l0 : lenN t = 0 := by unfold lenN; rw [if_pos ha]
      rw [hr j hj, hG j (by omega)]
      cases h13 : t 13 with
      | true =>
        rw [h13] at h1 h2
        rw [Gb_llen h13 h1 h2, l0]; simp
      | false =>
        rw [h13] at h1 h2
        rw [Gb_slen h13 h1 h2, l0]; simp
    · exact ho j (by omega)
  · by_cases hL : 13 < L
    · rw [same hL]
      refine Nat.le_trans (Nf_mono fun k hk hb => ?_) (by rw [n4]; exact l8)
      have : headN (t 13) - 4 + k < L := Nat.lt_of_not_le fun z => by rw [ho _ z] at hb; cases hb
      rw [← hr _ this]; exact hb
    · rw [short hL, Nf_zero fun k hk => ho _ (by show L ≤ 19 - 4 + k; omega)]
      decide
  · by_cases hL : L ≤ headN (r 13)
    · omega
    · have h3 := headN_le (r 13)
      have e := same (by omega)
      rw [e] at hL ⊢
      have : lenN r = lenN t := by
        unfold lenN
        have hak := askN_lt (t 13)
        rw [e, hr (askN (t 13)) (by omega), Nf_congr (r := r) (t := t) fun k hk => hr _ (by omega)]
      rw [this]; omega
theorem plain_take {f : Frm} {p : List Bool} (h : p <+: plainB f) (hl : p.length ≤ (bodyB f).length) : p <+: bodyB f := by
  have h2 : bodyB f <+: plainB f := List.prefix_append _ _
  exact List.prefix_of_prefix_length_le h h2 hl
theorem plain_ge {f : Frm} {p : List Bool} (h : p <+: plainB f) (hl : (bodyB f).length ≤ p.length) : bodyB f <+: p := by
  have h2 : bodyB f <+: plainB f := List.prefix_append _ _
  exact List.prefix_of_prefix_length_le h2 h hl
/-- a row that begins some frame begins the one that is filled -/
theorem fill_begins {f : Frm} (hf : f.Ok) {p : List Bool} (h : p <+: plainB f) : p <+: plainB (fillR (rho p)) := by
  by_cases hl : p.length ≤ (bodyB f).length
  · exact (cond_of hf (plain_take h hl)).pre.trans (List.prefix_append _ _)
  · rw [fill_pre hf (plain_ge h (by omega))]; exact h
/-- the bit that is due behind p: none where both may stand -/
def dueH (r : Nat → Bool) (i : Nat) : Option Bool :=
  if i < headN (r 13) - 4 then (if askN (r 13) < i then some false else none)
  else if r (askN (r 13)) then some false else if headN (r 13) - 4 < i ∧ r (headN (r 13) - 4) = true then some false else none
def bodyN (r : Nat → Bool) : Nat := headN (r 13) + 8 * Nf r (headN (r 13) - 4) 4
def dueB (p : List Bool) : Option Bool :=
  if p.length = 0 then some false
  else if p.length < 14 then (if p.length = 13 ∧ rho p 12 = false then some false else none)
  else if p.length < headN (rho p 13) then dueH (rho p) p.length
  else if p.length < bodyN (rho p) then none else some ((rbits (crc 0 (p.take (bodyN (rho p)))) 15).getD (p.length - bodyN (rho p)) false)
def sizeB (p : List Bool) : Option Nat := if p.length < 14 ∨ p.length < headN (rho p 13) then none else some (bodyN (rho p) + 15)
/-- the size is that of the frame -/
theorem bodyN_of {f : Frm} (hf : f.Ok) {p : List Bool} (h : p <+: plainB f) (h1 : 14 ≤ p.length) (h2 : headN (rho p 13) ≤ p.length) : bodyN (rho p) = (bodyB f).length := by
  have hb := body_frame hf
  have hbl := body_len (rho (bodyB f))
  rw [hb] at hbl
  have c := cond_of hf (List.prefix_refl (bodyB f))
  have cl := c.len
  have hp : bodyB f <+: plainB f := List.prefix_append _ _
  have hge := headN_le (rho (bodyB f) 13)
  have e : ∀ j, j < p.length → j < (bodyB f).length → rho p j = rho (bodyB f) j := fun j q1 q2 => by rw [rho_pre h q1, rho_pre hp q2]
  have e13 := e 13 (by omega) (by omega)
  unfold bodyN
  rw [e13] at h2 ⊢
  rw [hbl, cl, Nf_congr (t := rho (bodyB f)) fun k hk => e _ (by omega) (by omega)]
theorem size_of {f : Frm} (hf : f.Ok) {p : List Bool} (h : p <+: plainB f) : sizeB p = some p.length ↔ p = plainB f := by
  have pl : (plainB f).length = (bodyB f).length + 15 := by unfold plainB; simp [rbits]
  have hb := body_frame hf
  have hbl := body_len (rho (bodyB f))
  rw [hb] at hbl
  have hge := headN_le (rho (bodyB f) 13)
  have hp : bodyB f <+: plainB f := List.prefix_append _ _
  unfold sizeB
  by_cases q : p.length < 14 ∨ p.length < headN (rho p 13)
  · rw [if_pos q]
    constructor
    · intro z; cases z
    · rintro rfl
      exfalso
      rcases q with q | q
      · omega
      · have : rho (plainB f) 13 = rho (bodyB f) 13 := (rho_pre hp (by omega)).symm
        rw [this] at q; omega
  · rw [if_neg q, bodyN_of hf h (by omega) (by omega)]
    constructor
    · intro z
      have z := Option.some.inj z
      obtain ⟨t, ht⟩ := h
      have : t = [] := List.eq_nil_of_length_eq_zero (by have := congrArg List.length ht; simp at this; omega)
      rw [← ht, this, List.append_nil]
    · rintro rfl
      rw [pl]
theorem dueB_crc {f : Frm} (hf : f.Ok) {p : List Bool} (h : p <+: plainB f) (hl : (bodyB f).length ≤ p.length) : dueB p = some (rho (plainB f) p.length) ∨ p = plainB f := by
  have pl : (plainB f).length = (bodyB f).length + 15 := by unfold plainB; simp [rbits]
  have hb := body_frame hf
  have hbl := body_len (rho (bodyB f))
  rw [hb] at hbl
  have hge := headN_le (rho (bodyB f) 13)
  have hp : bodyB f <+: plainB f := List.prefix_append _ _
  have e13 : rho p 13 = rho (bodyB f) 13 := by rw [rho_pre h (by omega), rho_pre hp (by omega)]
  have eN := bodyN_of hf h (by omega) (by rw [e13]; omega)
  by_cases q : p = plainB f
  · exact .inr q
  · left
    unfold dueB
    rw [if_neg (by omega), if_neg (by omega), if_neg (by rw [e13]; omega), eN, if_neg (by omega)]
    have ht : p.take (bodyB f).length = bodyB f := by
      have := plain_ge h hl
      exact (List.prefix_iff_eq_take.mp this).symm
    rw [ht]
    congr 1
    unfold plainB rho
    rw [List.getD_eq_getElem?_getD, List.getD_eq_getElem?_getD, List.getElem?_append_right hl]
/-- a bit that stands is due, or free -/
theorem due_1 {f : Frm} (hf : f.Ok) {p : List Bool} {b : Bool} (h : p ++ [b] <+: plainB f) : dueB p = none ∨ dueB p = some b := by
  have hp : p <+: plainB f := (List.prefix_append p [b]).trans h
  have hbt : rho (plainB f) p.length = b := by
    rw [← rho_pre h (by simp), rho_snoc, if_pos rfl]
  by_cases hl : (bodyB f).length ≤ p.length
  · rcases dueB_crc hf hp hl with e | e
    · right; rw [e, hbt]
    · exfalso
      have := h.length_le
      rw [← e] at this
      simp at this
      omega
  · have c := cond_of hf (plain_take h (by simp; omega))
    have hs : ∀ j, j ≠ p.length → rho (p ++ [b]) j = rho p j := fun j hj => by rw [rho_snoc, if_neg hj]
    have hb : rho (p ++ [b]) p.length = b := by rw [rho_snoc, if_pos rfl]
    have c0 := c.c0
    have c13 := c.c13
    have cz := c.cz
    have cl := c.cl
    have c8 := c.c8
    have cb := c.cb
    have clen := c.len
    simp only [List.length_append, List.length_cons, List.length_nil] at cb
    unfold dueB
    by_cases h0 : p.length = 0
    · rw [if_pos h0]; right
      rw [h0] at hb
      rw [← hb, c0]
    · rw [if_neg h0]
      by_cases h14 : p.length < 14
      · rw [if_pos h14]
        split
        · rename_i q
          right
          rw [q.1] at hb
          cases b with
          | false => rfl
          | true => rw [← hs 12 (by omega), c13 hb] at q; exact absurd q.2 (by simp)
        · exact .inl rfl
      · rw [if_neg h14]
        have e13 : rho (p ++ [b]) 13 = rho p 13 := hs 13 (by omega)
        rw [e13] at cz cl c8 cb clen
        have hak := askN_lt (rho p 13)
        by_cases hh : p.length < headN (rho p 13)
        · rw [if_pos hh]
          unfold dueH
          by_cases h4 : p.length < headN (rho p 13) - 4
          · rw [if_pos h4]
            split
            · rename_i q
              right; rw [← hb, cz _ q h4]
            · exact .inl rfl
          · rw [if_neg h4]
            split
            · rename_i q
              right
              rw [← hb, cl (by rw [hs _ (by omega)]; exact q) _ (by omega) hh]
            · split
              · rename_i q
                right
                cases b with
                | false => rfl
                | true =>
                  exfalso
                  have q2 : rho (p ++ [true]) (headN (rho p 13) - 4) = true := by rw [hs _ (by omega)]; exact q.2
                  obtain ⟨k, hk⟩ : ∃ k, p.length = headN (rho p 13) - 4 + (k + 1) := ⟨p.length - (headN (rho p 13) - 4) - 1, by omega⟩
                  have hk3 : k < 3 := by omega
                  rw [hk] at hb
                  generalize headN (rho p 13) - 4 = a at *
                  generalize rho (p ++ [true]) = t at *
                  simp only [Nf, Nat.add_zero] at c8
                  rw [q2] at c8
                  have : k = 0 ∨ k = 1 ∨ k = 2 := by omega
                  rcases this with rfl | rfl | rfl
                  · rw [show a + (0 + 1) = a + 1 from rfl] at hb
                    rw [hb] at c8; simp at c8; omega
                  · rw [show a + (1 + 1) = a + 2 from rfl] at hb
                    rw [hb] at c8; simp at c8; omega
                  · rw [show a + (2 + 1) = a + 3 from rfl] at hb
                    rw [hb] at c8; simp at c8; omega
              · exact .inl rfl
        · rw [if_neg hh]
          have : bodyN (rho p) = headN (rho p 13) + 8 * lenN (rho (p ++ [b])) := by
            unfold bodyN
            rw [clen, Nf_congr (t := rho (p ++ [b])) fun k hk => (hs _ (by omega)).symm]
          rw [this, if_pos (by omega)]
          exact .inl rfl
/-- a bit that is free, or due, may stand -/
theorem due_2 {f : Frm} (hf : f.Ok) {p : List Bool} {b : Bool} (h : p <+: plainB f) (hi : p ≠ plainB f) (hd : dueB p = none ∨ dueB p = some b) : ∃ g : Frm, g.Ok ∧ p ++ [b] <+: plainB g := by
  obtain ⟨t, ht⟩ := id h
  cases t with
  | nil => exact absurd (by simpa using ht) hi
  | cons b' t =>
    have h' : p ++ [b'] <+: plainB f := ⟨t, by simpa using ht⟩
    by_cases hbb : b = b'
    · subst hbb; exact ⟨f, hf, h'⟩
    · have hn : dueB p = none := by
        rcases hd with e | e
        · exact e
        · rcases due_1 hf h' with e2 | e2
          · exact e2
          · rw [e] at e2; exact absurd (Option.some.inj e2) hbb
      have hl : p.length < (bodyB f).length := Nat.lt_of_not_le fun z => by
        rcases dueB_crc hf h z with e | e
        · rw [hn] at e; cases e
        · exact hi e
      have c := cond_of hf (plain_take h (by omega))
      refine ⟨fillR (rho (p ++ [b])), fillR_ok _, List.IsPrefix.trans (Cond.pre ?_) (List.prefix_append _ _)⟩
      have hs : ∀ j, j ≠ p.length → rho (p ++ [b]) j = rho p j := fun j hj => by rw [rho_snoc, if_neg hj]
      have ho : ∀ j, p.length ≤ j → rho p j = false := fun j hj => rho_off hj
      rw [show (p ++ [b]).length = p.length + 1 from by simp]
      have c0 := c.c0
      have c13 := c.c13
      have cz := c.cz
      have cl := c.cl
      have c8 := c.c8
      have cb := c.cb
      have clen := c.len
      generalize hL : p.length = L at *
      unfold dueB at hn
      rw [hL] at hn
      generalize rho (p ++ [b]) = r' at *
      by_cases h0 : L = 0
      · rw [if_pos h0] at hn; cases hn
      · rw [if_neg h0] at hn
        by_cases h14 : L < 14
        · rw [if_pos h14] at hn
          have h13 : rho p 13 = false := ho 13 (by omega)
          rw [h13] at cz
          by_cases e : L = 13
          · have h12 : rho p 12 = true := by
              cases q : rho p 12 with
              | true => rfl
              | false => rw [if_pos ⟨e, q⟩] at hn; cases hn
            have hbig : ∀ j, 14 ≤ j → r' j = false := fun j hj => by rw [hs j (by omega)]; exact ho j (by omega)
            have hh := headN_le (r' 13)
            refine ⟨by rw [hs 0 (by omega)]; exact c0, fun _ => by rw [hs 12 (by omega)]; exact h12, fun j h1 h2 => ?_, fun _ j h1 _ => hbig j (by omega), ?_, by omega⟩
            · by_cases h3 : 14 ≤ j
              · exact hbig j h3
              · cases q : r' 13 with
                | true => rw [q] at h1; have : (32 : Nat) < j := h1; omega
                | false =>
                  rw [q] at h1
                  have : (12 : Nat) < j := h1
                  have : j = 13 := by omega
                  rw [this]; exact q
            · rw [Nf_zero fun k hk => hbig _ (by omega)]; decide
          · have e13 : r' 13 = false := by rw [hs 13 (by omega)]; exact h13
            have hbig : ∀ j, 13 ≤ j → r' j = false := fun j hj => by rw [hs j (by omega)]; exact ho j (by omega)
            refine ⟨by rw [hs 0 (by omega)]; exact c0, fun z => (by rw [e13] at z; cases z), fun j h1 h2 => ?_, fun _ j h1 _ => ?_, ?_, ?_⟩
            · rw [e13] at h1; exact hbig j (by have : (12 : Nat) < j := h1; omega)
            · rw [e13] at h1; exact hbig j (by have : 15 ≤ j := h1; omega)
            · rw [e13, Nf_zero fun k hk => hbig _ (by show 13 ≤ 19 - 4 + k; omega)]; decide
            · have := headN_le (r' 13); omega
        · rw [if_neg h14] at hn
          have e13 : r' 13 = rho p 13 := hs 13 (by omega)
          have hak := askN_lt (rho p 13)
          have hh := headN_le (rho p 13)
          by_cases hlt : L < headN (rho p 13)
          · rw [if_pos hlt] at hn
            unfold dueH at hn
            by_cases h4 : L < headN (rho p 13) - 4
            · rw [if_pos h4] at hn
              have hle : L ≤ askN (rho p 13) := Nat.le_of_not_lt fun z => by rw [if_pos z] at hn; cases hn
              have hbig : ∀ j, L < j → r' j = false := fun j hj => by rw [hs j (by omega)]; exact ho j (by omega)
              refine ⟨by rw [hs 0 (by omega)]; exact c0, fun z => ?_, fun j h1 h2 => ?_, fun _ j h1 _ => ?_, ?_, ?_⟩
              · rw [e13] at z; rw [hs 12 (by omega)]; exact c13 z
              · rw [e13] at h1; exact hbig j (by omega)
              · rw [e13] at h1; exact hbig j (by omega)
              · rw [e13, Nf_zero fun k hk => hbig _ (by omega)]; decide
              · rw [e13]; omega
            · rw [if_neg h4] at hn
              have ha : ¬ rho p (askN (rho p 13)) = true := fun z => by rw [if_pos z] at hn; cases hn
              rw [if_neg ha] at hn
              have hq : ¬ (headN (rho p 13) - 4 < L ∧ rho p (headN (rho p 13) - 4) = true) := fun z => by rw [if_pos z] at hn; cases hn
              refine ⟨by rw [hs 0 (by omega)]; exact c0, fun z => ?_, fun j h1 h2 => ?_, fun z => ?_, ?_, ?_⟩
              · rw [e13] at z; rw [hs 12 (by omega)]; exact c13 z
              · rw [e13] at h1 h2; rw [hs j (by omega)]; exact cz j h1 h2
              · rw [e13, hs _ (by omega)] at z; exact absurd z ha
              · rw [e13]
                obtain ⟨k, hk⟩ : ∃ k, L = headN (rho p 13) - 4 + k := ⟨L - (headN (rho p 13) - 4), by omega⟩
                have hk4 : k < 4 := by omega
                have hs' : ∀ m, m < 4 → m ≠ k → r' (headN (rho p 13) - 4 + m) = rho p (headN (rho p 13) - 4 + m) := fun m _ hm => hs _ (by omega)
                have ho' : ∀ m, k ≤ m → rho p (headN (rho p 13) - 4 + m) = false := fun m hm => ho _ (by omega)
                have hq' : k = 0 ∨ rho p (headN (rho p 13) - 4) = false := by
                  by_cases k0 : k = 0
                  · exact .inl k0
                  · right
                    cases q : rho p (headN (rho p 13) - 4) with
                    | false => rfl
                    | true => exact absurd ⟨by omega, q⟩ hq
                generalize headN (rho p 13) - 4 = a at *
                rcases hq' with rfl | hq'
                · have e1 := hs' 1 (by decide) (by decide)
                  have e2 := hs' 2 (by decide) (by decide)
                  have e3 := hs' 3 (by decide) (by decide)
                  rw [ho' 1 (by decide)] at e1
                  rw [ho' 2 (by decide)] at e2
                  rw [ho' 3 (by decide)] at e3
                  simp only [Nf, Nat.add_zero, e1, e2, e3]
                  have := Bool.toNat_le (r' a)
                  simp; omega
                · by_cases k0 : k = 0
                  · subst k0
                    have e1 := hs' 1 (by decide) (by decide)
                    have e2 := hs' 2 (by decide) (by decide)
                    have e3 := hs' 3 (by decide) (by decide)
                    rw [ho' 1 (by decide)] at e1
                    rw [ho' 2 (by decide)] at e2
                    rw [ho' 3 (by decide)] at e3
                    simp only [Nf, Nat.add_zero, e1, e2, e3]
                    have := Bool.toNat_le (r' a)
                    simp; omega
                  · have e0 := hs' 0 (by decide) (by omega)
                    rw [Nat.add_zero, hq'] at e0
                    simp only [Nf, Nat.add_zero, e0]
                    have := Bool.toNat_le (r' (a + 1))
                    have := Bool.toNat_le (r' (a + 2))
                    have := Bool.toNat_le (r' (a + 3))
                    simp; omega
              · rw [e13]; omega
          · rw [if_neg hlt] at hn
            have hb : L < bodyN (rho p) := Nat.lt_of_not_le fun z => by rw [if_neg (by omega)] at hn; cases hn
            have hN : ∀ k, k < 4 → r' (headN (rho p 13) - 4 + k) = rho p (headN (rho p 13) - 4 + k) := fun k hk => hs _ (by omega)
            have eN := Nf_congr hN
            have ea : r' (askN (rho p 13)) = rho p (askN (rho p 13)) := hs _ (by omega)
            refine ⟨by rw [hs 0 (by omega)]; exact c0, fun z => ?_, fun j h1 h2 => ?_, fun z j h1 h2 => ?_, ?_, ?_⟩
            · rw [e13] at z; rw [hs 12 (by omega)]; exact c13 z
            · rw [e13] at h1 h2; rw [hs j (by omega)]; exact cz j h1 h2
            · rw [e13, ea] at z; rw [e13] at h1 h2; rw [hs j (by omega)]; exact cl z j h1 h2
            · rw [e13, eN]; exact c8
            · rw [e13]
              have : lenN r' = lenN (rho p) := by unfold lenN; rw [e13, ea, eN]
              rw [this, clen]
              unfold bodyN at hb
              omega
def wireB (f : Frm) : List Bool := stuffB (plainB f) ++ List.replicate 10 true
/-! ### wires read, over bits alone -/
theorem wire_len (f : Frm) : (wireB f).length = (stuffB (plainB f)).length + 10 := by unfold wireB; simp
theorem plain_uniq {f g : Frm} (hf : f.Ok) (hg : g.Ok) (h : plainB f <+: plainB g) : plainB f = plainB g :=
  (size_of hg h).mp ((size_of hf (List.prefix_refl _)).mpr rfl)
theorem pre_of {p X : List Bool} (hl : p.length ≤ X.length) (h : ∀ j, j < p.length → rho p j = rho X j) : p <+: X := by
  rw [List.prefix_iff_eq_take]
  apply List.ext_getElem?
  intro j
  rw [List.getElem?_take]
  by_cases hj : j < p.length
  · have hj2 : j < X.length := by omega
    have e := h j hj
    rw [rho_get (List.getElem?_eq_getElem hj), rho_get (List.getElem?_eq_getElem hj2)] at e
    rw [if_pos hj, List.getElem?_eq_getElem hj, List.getElem?_eq_getElem hj2, e]
  · rw [if_neg hj, List.getElem?_eq_none (by omega)]
/-- W begins f's wire; the answer is free -/
structure AG (W : List Bool) (f : Frm) : Prop where
  len : W.length ≤ (wireB f).length
  at_ : ∀ k, k < W.length → k ≠ (stuffB (plainB f)).length + 1 → rho W k = rho (wireB f) k
theorem wire_s (f : Frm) {k : Nat} (h : k < (stuffB (plainB f)).length) : rho (wireB f) k = rho (stuffB (plainB f)) k := (rho_pre (List.prefix_append _ _) h).symm
theorem wire_t (f : Frm) {k : Nat} (h1 : (stuffB (plainB f)).length ≤ k) (h2 : k < (wireB f).length) : rho (wireB f) k = true := by
  rw [wire_len] at h2
  unfold wireB rho
  rw [List.getD_eq_getElem?_getD, List.getElem?_append_right h1, List.getElem?_replicate, if_pos (by omega)]; rfl
theorem AG.short {W : List Bool} {f : Frm} (a : AG W f) (h : W.length ≤ (stuffB (plainB f)).length) : W <+: stuffB (plainB f) :=
  pre_of h fun j hj => by rw [a.at_ j hj (by omega), wire_s f (by omega)]
theorem AG.long {W : List Bool} {f : Frm} (a : AG W f) (h : (stuffB (plainB f)).length ≤ W.length) : stuffB (plainB f) <+: W :=
  pre_of h fun j hj => by rw [a.at_ j (by omega) (by omega), wire_s f hj]
theorem AG.take {W : List Bool} {f : Frm} (a : AG W f) (m : Nat) : AG (W.take m) f := by
  refine ⟨by have := a.len; simp; omega, fun k hk hk2 => ?_⟩
  rw [rho_pre (List.take_prefix m W) hk]
  exact a.at_ k (by simp at hk; omega) hk2
theorem AG.of_pre {W : List Bool} {f : Frm} (h : W <+: stuffB (plainB f)) : AG W f := by
  have hl := h.length_le
  refine ⟨by rw [wire_len]; omega, fun k hk _ => ?_⟩
  rw [rho_pre h hk, wire_s f (by omega)]
def Bg (W : List Bool) : Prop := ∃ f : Frm, f.Ok ∧ AG W f
theorem Bg.take {W : List Bool} (h : Bg W) (m : Nat) : Bg (W.take m) := let ⟨f, hf, a⟩ := h; ⟨f, hf, a.take m⟩
/-- bits whose plain ones begin a frame begin its wire -/
theorem un_pre {x : List Bool} {s : StB} (h : unF x stI = some s) {f : Frm} (hp : s.acc <+: plainB f) : x <+: stuffB (plainB f) := by
  have h1 := stuff_unF x h
  have h2 := stuff_prefix.mpr hp
  split at h1
  · obtain ⟨b, _, e⟩ := h1
    have : stuffB s.acc = x ++ [!b] := by unfold stuffB; rw [e]
    rw [this] at h2
    exact (List.prefix_append _ _).trans h2
  · have : stuffB s.acc = x := by unfold stuffB; rw [h1]
    rw [this] at h2; exact h2
theorem un_of_pre {x S : List Bool} {t : StB} (h : unF S stI = some t) (hx : x <+: S) : ∃ s, unF x stI = some s ∧ s.acc <+: t.acc := by
  obtain ⟨r, rfl⟩ := hx
  rw [unF_app] at h
  cases hu : unF x stI with
  | none => rw [hu] at h; cases h
  | some s => rw [hu] at h; exact ⟨s, rfl, unF_acc r h⟩
/-- the machine that reads -/
def rdS (s : StB) (b : Bool) : Option StB :=
  if s.run = 5 then (if s.last = some b then none else some ⟨s.acc, some b, 1⟩)
  else if dueB s.acc = some (!b) then none else some ⟨s.acc ++ [b], some b, rbB s.last s.run b⟩
def moreB (s : StB) : Bool := decide (s.run = 5) || !decide (sizeB s.acc = some s.acc.length)
def rdL : List Bool → StB → Nat → Nat ⊕ (StB × Nat)
  | W, s, i => if moreB s then (match W with
    | [] => .inl i
    | b :: r => match rdS s b with
      | none => .inl i
      | some t => rdL r t (i + 1)) else .inr (s, i)
structure RdI (x : List Bool) (s : StB) : Prop where
  un : unF x stI = some s
  ex : ∃ f : Frm, f.Ok ∧ s.acc <+: plainB f
theorem RdI.start : RdI [] stI := ⟨rfl, ⟨⟨0, false, false, []⟩, ⟨by decide, by decide, fun _ h => (by cases h), fun h => (by cases h)⟩, List.nil_prefix⟩⟩
theorem unS_snoc {x : List Bool} {s t : StB} {b : Bool} (h : unF x stI = some s) (h2 : unS s b = some t) : unF (x ++ [b]) stI = some t := by
  rw [unF_app, h]
  show (unS s b).bind (unF []) = some t
  rw [h2]; rfl
theorem more_ne {s : StB} (h : moreB s = true) (h5 : ¬ s.run = 5) : sizeB s.acc ≠ some s.acc.length := by
  unfold moreB at h
  rw [decide_eq_false h5, Bool.false_or, Bool.not_eq_true', decide_eq_false_iff_not] at h
  exact h
theorem RdI.step {x : List Bool} {s t : StB} {b : Bool} (I : RdI x s) (hm : moreB s = true) (h : rdS s b = some t) : RdI (x ++ [b]) t := by
  obtain ⟨hu, f, hf, hp⟩ := I
  unfold rdS at h
  split at h
  · rename_i h5
    split at h
    · cases h
    · rename_i hl
      cases h
      exact ⟨unS_snoc hu (by unfold unS; rw [if_pos h5, if_neg hl]), f, hf, hp⟩
  · rename_i h5
    split at h
    · cases h
    · rename_i hd
      cases h
      refine ⟨unS_snoc hu (by unfold unS; rw [if_neg h5]), ?_⟩
      have hne : s.acc ≠ plainB f := fun z => more_ne hm h5 ((size_of hf hp).mpr z)
      have : dueB s.acc = none ∨ dueB s.acc = some b := by
        cases q : dueB s.acc with
        | none => exact .inl rfl
        | some c =>
          right
          rw [q] at hd
          cases b <;> cases c <;> simp_all
      obtain ⟨g, hg, hq⟩ := due_2 hf hp hne this
      exact ⟨g, hg, hq⟩
theorem RdI.bg {x : List Bool} {s : StB} (I : RdI x s) : Bg x := by
  obtain ⟨hu, f, hf, hp⟩ := I
  exact ⟨f, hf, AG.of_pre (un_pre hu hp)⟩
/-- the plain bits of a wire are not all read yet -/
theorem RdI.lt {x W : List Bool} {s : StB} (I : RdI x s) (hm : moreB s = true) (hx : x <+: W) {g : Frm} (hg : g.Ok) (a : AG W g) (hW : W.length ≤ x.length + 1) (hW2 : x.length + 1 = W.length ∨ W.length = (wireB g).length) : x.length < (stuffB (plainB g)).length := by
  refine Nat.lt_of_not_le fun hle => ?_
  obtain ⟨hu, f, hf, hp⟩ := I
  have hS : stuffB (plainB g) <+: x := List.prefix_of_prefix_length_le (a.long (by have := hx.length_le; omega)) hx hle
  obtain ⟨y, rfl⟩ := hS
  rw [unF_app, unF_stuff] at hu
  have h5 := stF_run (plainB g)
  have hu : unF y ⟨plainB g, (stF (plainB g)).last, (stF (plainB g)).run⟩ = some s := hu
  have hacc := unF_acc y hu
  have hfg : plainB g = plainB f := plain_uniq hg hf (hacc.trans hp)
  have hse : s.acc = plainB g := by
    have h1 := hacc.length_le
    have h2 := hp.length_le
    rw [← hfg] at h2
    exact (List.IsPrefix.eq_of_length hacc (by simp only at h1 ⊢; omega)).symm
  cases y with
  | nil =>
    cases hu
    unfold moreB at hm
    rw [decide_eq_false (by show ¬ (stF (plainB g)).run = 5; omega), (size_of hg (List.prefix_refl _)).mpr rfl] at hm
    simp at hm
  | cons c y =>
    have hu : (unS _ c).bind (unF y) = some s := hu
    unfold unS at hu
    rw [if_neg (by show ¬ (stF (plainB g)).run = 5; omega)] at hu
    have := (unF_acc y hu).length_le
    rw [hse] at this
    simp at this
    omega
theorem RdI.no {x : List Bool} {s : StB} {b : Bool} (I : RdI x s) (hm : moreB s = true) (h : rdS s b = none) : ¬ Bg (x ++ [b]) := by
  rintro ⟨g, hg, a⟩
  have hlt := I.lt hm (List.prefix_append x [b]) hg a (by simp) (.inl (by simp))
  have hp := a.short (by simp; omega)
  obtain ⟨t, ht, hta⟩ := un_of_pre (unF_stuff (plainB g)) hp
  rw [unF_app, I.un] at ht
  have ht : (unS s b).bind (unF []) = some t := ht
  unfold unS at ht
  unfold rdS at h
  split at ht
  · rename_i h5
    rw [if_pos h5] at h
    split at ht
    · cases ht
    · rename_i hl
      rw [if_neg hl] at h; cases h
  · rename_i h5
    rw [if_neg h5] at h
    split at h
    · rename_i hd
      cases ht
      rcases due_1 hg hta with e | e
      · rw [e] at hd; cases hd
      · rw [e] at hd; cases b <;> simp at hd
    · cases h
theorem RdI.fin {x : List Bool} {s : StB} (I : RdI x s) (hm : moreB s = false) : ∃ f : Frm, f.Ok ∧ s.acc = plainB f ∧ x = stuffB (plainB f) := by
  obtain ⟨hu, f, hf, hp⟩ := I
  unfold moreB at hm
  rw [Bool.or_eq_false_iff] at hm
  have h5 := of_decide_eq_false hm.1
  have h6 : sizeB s.acc = some s.acc.length := by
    have := hm.2
    rw [Bool.not_eq_false'] at this
    exact of_decide_eq_true this
  have e := (size_of hf hp).mp h6
  have h1 := stuff_unF x hu
  rw [if_neg h5] at h1
  exact ⟨f, hf, e, by rw [← e]; unfold stuffB; rw [h1]⟩
/-- what the reading of the plain bits tells -/
theorem rdL_spec {W : List Bool} : ∀ (r x : List Bool) (s : StB), W = x ++ r → RdI x s → match rdL r s x.length with
    | .inl k => k ≤ W.length ∧ Bg (W.take k) ∧ (k < W.length → ¬ Bg (W.take (k + 1))) ∧ (k = W.length → ∀ g : Frm, g.Ok → AG W g → W.length ≠ (wireB g).length)
    | .inr (t, i) => ∃ f : Frm, f.Ok ∧ t.acc = plainB f ∧ i = (stuffB (plainB f)).length ∧ stuffB (plainB f) <+: W
  | r, x, s, hW, I => by
    unfold rdL
    cases hm : moreB s with
    | false =>
      rw [if_neg (by simp)]
      obtain ⟨f, hf, e1, e2⟩ := I.fin hm
      exact ⟨f, hf, e1, by rw [e2], by rw [← e2, hW]; exact List.prefix_append _ _⟩
    | true =>
      rw [if_pos rfl]
      cases r with
      | nil =>
        rw [List.append_nil] at hW
        subst hW
        refine ⟨Nat.le_refl _, by rw [List.take_length]; exact I.bg, fun z => absurd z (Nat.lt_irrefl _), fun _ g hg a e => ?_⟩
        have := I.lt hm (List.prefix_refl _) hg a (by omega) (.inr e)
        rw [e, wire_len] at this
        omega
      | cons b r =>
        have ht : W.take (x.length + 1) = x ++ [b] := by
          rw [hW, List.take_append, List.take_of_length_le (by omega), show x.length + 1 - x.length = 1 from by omega]; rfl
        cases hs : rdS s b with
        | none =>
          simp only [hs]
          refine ⟨by rw [hW]; simp, ?_, fun _ => by rw [ht]; exact I.no hm hs, fun z => absurd z (by rw [hW]; simp)⟩
          rw [hW, List.take_left]; exact I.bg
        | some t =>
          simp only [hs]
          have := rdL_spec (W := W) r (x ++ [b]) t (by rw [hW]; simp) (I.step hm hs)
          rw [show (x ++ [b]).length = x.length + 1 from by simp] at this
          exact this
  termination_by r => r.length
/-! ### the end of a wire -/
def tbad (W : List Bool) (i j : Nat) : Bool := decide (i + j = W.length) || (decide (j ≠ 1) && !rho W (i + j))
def tlL (W : List Bool) (i : Nat) : Nat → Nat → Option Nat
  | 0, _ => none
  | m + 1, j => if tbad W i j then some j else tlL W i m (j + 1)
theorem tlL_spec (W : List Bool) (i : Nat) : ∀ m j, match tlL W i m j with
    | some k => j ≤ k ∧ k < j + m ∧ tbad W i k = true ∧ ∀ t, j ≤ t → t < k → tbad W i t = false
    | none => ∀ t, j ≤ t → t < j + m → tbad W i t = false
  | 0, j => fun t h1 h2 => absurd h2 (by omega)
  | m + 1, j => by
    unfold tlL
    cases hb : tbad W i j with
    | true => rw [if_pos rfl]; exact ⟨Nat.le_refl _, by omega, hb, fun t h1 h2 => absurd h2 (by omega)⟩
    | false =>
      rw [if_neg (by simp)]
      have := tlL_spec W i m (j + 1)
      cases ht : tlL W i m (j + 1) with
      | some k =>
        rw [ht] at this
        obtain ⟨h1, h2, h3, h4⟩ := this
        exact ⟨by omega, by omega, h3, fun t q1 q2 => if e : t = j then by rw [e]; exact hb else h4 t (by omega) q2⟩
      | none =>
        rw [ht] at this
        exact fun t q1 q2 => if e : t = j then by rw [e]; exact hb else this t (by omega) (by omega)
def readW (W : List Bool) : Nat ⊕ List Bool := match rdL W stI 0 with
  | .inl k => .inl k
  | .inr (s, i) => match tlL W i 10 0 with
    | some j => .inl (i + j)
    | none => if i + 10 < W.length then .inl (i + 10) else .inr s.acc
/-- one wire alone goes on so -/
theorem tail_same {f g : Frm} (hf : f.Ok) (hg : g.Ok) {x : List Bool} (a : AG x g) (hS : stuffB (plainB f) <+: x) (h : (stuffB (plainB f)).length < x.length ∨ x.length = (wireB g).length) : plainB g = plainB f := by
  have hx := hS.length_le
  by_cases hl : (stuffB (plainB g)).length ≤ (stuffB (plainB f)).length
  · have h1 := a.long (by omega)
    exact plain_uniq hg hf (stuff_prefix.mp (List.prefix_of_prefix_length_le h1 hS hl))
  · exfalso
    have hlt : (stuffB (plainB f)).length < x.length := by
      rcases h with h | h
      · exact h
      · rw [h, wire_len]; omega
    have ay := a.take ((stuffB (plainB f)).length + 1)
    have hy : x.take ((stuffB (plainB f)).length + 1) = stuffB (plainB f) ++ [x[(stuffB (plainB f)).length]] := by
      rw [List.take_add_one, List.getElem?_eq_getElem hlt, ← List.prefix_iff_eq_take.mp hS]; rfl
    rw [hy] at ay
    have hp := ay.short (by simp; omega)
    obtain ⟨s, hs, hsa⟩ := un_of_pre (unF_stuff (plainB g)) hp
    have h5 := stF_run (plainB f)
    rw [unF_app, unF_stuff] at hs
    have hs : (unS ⟨plainB f, (stF (plainB f)).last, (stF (plainB f)).run⟩ x[(stuffB (plainB f)).length]).bind (unF []) = some s := hs
    unfold unS at hs
    rw [if_neg (by show ¬ (stF (plainB f)).run = 5; omega)] at hs
    cases hs
    have e := plain_uniq hf hg ((List.prefix_append _ _).trans hsa)
    have := hsa.length_le
    rw [← e] at this
    simp at this
    omega
theorem readW_spec (W : List Bool) : match readW W with
    | .inl k => k ≤ W.length ∧ Bg (W.take k) ∧ (k < W.length → ¬ Bg (W.take (k + 1))) ∧ (k = W.length → ∀ g : Frm, g.Ok → AG W g → W.length ≠ (wireB g).length)
    | .inr p => ∃ f : Frm, f.Ok ∧ p = plainB f ∧ AG W f ∧ W.length = (wireB f).length := by
  have h := rdL_spec (W := W) W [] stI rfl RdI.start
  unfold readW
  change (match rdL W stI 0 with
    | .inl k => k ≤ W.length ∧ Bg (W.take k) ∧ (k < W.length → ¬ Bg (W.take (k + 1))) ∧ (k = W.length → ∀ g : Frm, g.Ok → AG W g → W.length ≠ (wireB g).length)
    | .inr (t, i) => ∃ f : Frm, f.Ok ∧ t.acc = plainB f ∧ i = (stuffB (plainB f)).length ∧ stuffB (plainB f) <+: W) at h
  cases hr : rdL W stI 0 with
  | inl k => rw [hr] at h; exact h
  | inr q =>
    obtain ⟨t, i⟩ := q
    rw [hr] at h
    obtain ⟨f, hf, ha, hi, hS⟩ := h
    have hle := hS.length_le
    have wl := wire_len f
    -- f's wire, as far as no bit was bad
    have good : ∀ m, m ≤ 10 → i + m ≤ W.length → (∀ t, t < m → tbad W i t = false) → AG (W.take (i + m)) f := fun m hm hl hb => by
      refine ⟨by simp; omega, fun k hk hk2 => ?_⟩
      rw [rho_pre (List.take_prefix _ _) hk]
      simp only [List.length_take] at hk
      by_cases hkS : k < (stuffB (plainB f)).length
      · rw [← rho_pre hS hkS, wire_s f hkS]
      · obtain ⟨j, rfl⟩ : ∃ j, k = i + j := ⟨k - i, by omega⟩
        have := hb j (by omega)
        unfold tbad at this
        rw [Bool.or_eq_false_iff, decide_eq_true (by omega : j ≠ 1), Bool.true_and, Bool.not_eq_false'] at this
        rw [this.2, wire_t f (by omega) (by omega)]
    have ts := tlL_spec W i 10 0
    simp only
    cases ht : tlL W i 10 0 with
    | some j =>
      rw [ht] at ts
      obtain ⟨_, t2, t3, t4⟩ := ts
      have hij : i + j ≤ W.length := by
        -- the first bad one is no later than the end
        refine Nat.le_of_not_lt fun hlt => ?_
        have := t4 (W.length - i) (by omega) (by omega)
        unfold tbad at this
        rw [Bool.or_eq_false_iff] at this
        exact absurd (by omega) (of_decide_eq_false this.1)
      refine ⟨hij, ⟨f, hf, good j (by omega) hij fun t ht => t4 t (by omega) ht⟩, fun hlt => ?_, fun he g hg a e => ?_⟩
      · rintro ⟨g, hg, a⟩
        have hS2 : stuffB (plainB f) <+: W.take (i + j + 1) := List.prefix_take_iff.mpr ⟨hS, by omega⟩
        have e := tail_same hf hg a hS2 (.inl (by simp; omega))
        have hl2 := a.len
        have a2 := a.at_ (i + j) (by simp; omega)
        rw [e] at a2
        have wl2 := wire_len g
        rw [e] at wl2
        unfold tbad at t3
        rw [decide_eq_false (by omega), Bool.false_or, Bool.and_eq_true, decide_eq_true_eq, Bool.not_eq_true'] at t3
        have a3 := a2 (by omega)
        rw [rho_pre (List.take_prefix _ _) (by simp; omega), t3.2, wire_t g (by rw [e]; omega) (by omega)] at a3
        cases a3
      · have e2 := tail_same hf hg a hS (.inr e)
        have wl2 := wire_len g
        rw [e2] at wl2
        omega
    | none =>
      rw [ht] at ts
      have hge : i + 10 ≤ W.length := by
        refine Nat.le_of_not_lt fun hlt => ?_
        have := ts (W.length - i) (by omega) (by omega)
        unfold tbad at this
        rw [Bool.or_eq_false_iff] at this
        exact absurd (by omega) (of_decide_eq_false this.1)
      have ga := good 10 (Nat.le_refl _) hge fun t ht => ts t (by omega) (by omega)
      by_cases hl : i + 10 < W.length
      · simp only [if_pos hl]
        refine ⟨by omega, ⟨f, hf, ga⟩, fun _ => ?_, fun z => absurd z (by omega)⟩
        rintro ⟨g, hg, a⟩
        have hS2 : stuffB (plainB f) <+: W.take (i + 10 + 1) := List.prefix_take_iff.mpr ⟨hS, by omega⟩
        have e := tail_same hf hg a hS2 (.inl (by simp; omega))
        have hl2 := a.len
        have wl2 := wire_len g
        rw [e] at wl2
        simp at hl2
        omega
      · simp only [if_neg hl]
        have e : W.take (i + 10) = W := List.take_of_length_le (by omega)
        rw [e] at ga
        exact ⟨f, hf, ha, ga, by omega⟩
/-- a wire, or an answered one, is read -/
theorem readW_ok {f : Frm} (hf : f.Ok) {W : List Bool} (a : AG W f) (hl : W.length = (wireB f).length) : readW W = .inr (plainB f) := by
  have h := readW_spec W
  cases hr : readW W with
  | inl k =>
    rw [hr] at h
    obtain ⟨h1, _, h3, h4⟩ := h
    exfalso
    by_cases hk : k < W.length
    · exact h3 hk ⟨f, hf, a.take _⟩
    · exact h4 (by omega) f hf a hl
  | inr p =>
    rw [hr] at h
    obtain ⟨g, hg, e, b, e2⟩ := h
    have wl := wire_len g
    rw [e, tail_same hg hf a (b.long (by omega)) (.inl (by omega))]
/-! ### the law's way -/
def luS (s : StB) (b : Bool) : StB := if s.run = 5 then ⟨s.acc, some b, 1⟩ else ⟨s.acc ++ [b], some b, rbB s.last s.run b⟩
def luF (W : List Bool) (s : StB) : StB := W.foldl luS s
theorem luF_un : ∀ {W : List Bool} {s t : StB}, unF W s = some t → luF W s = t
  | [], s, t, h => by cases h; rfl
  | b :: r, s, t, h => by
    have h : (unS s b).bind (unF r) = some t := h
    unfold unS at h
    show luF r (luS s b) = t
    unfold luS
    split at h
    · rename_i h5
      split at h
      · cases h
      · rw [if_pos h5]; exact luF_un h
    · rename_i h5
      rw [if_neg h5]; exact luF_un h
theorem luF_acc : ∀ (W : List Bool) (s : StB), s.acc <+: (luF W s).acc
  | [], _ => List.prefix_refl _
  | b :: r, s => by
    refine List.IsPrefix.trans ?_ (luF_acc r (luS s b))
    unfold luS
    split
    · exact List.prefix_refl _
    · exact List.prefix_append _ _
/-- the frame that the law builds of bits -/
def lawFr (W : List Bool) : Frm := fillR (rho (luF W stI).acc)
theorem lawFr_ok (W : List Bool) : (lawFr W).Ok := fillR_ok _
theorem lawFr_long {f : Frm} (hf : f.Ok) {W : List Bool} (h : stuffB (plainB f) <+: W) : lawFr W = f := by
  obtain ⟨y, rfl⟩ := h
  have h1 : luF (stuffB (plainB f)) stI = ⟨plainB f, (stF (plainB f)).last, (stF (plainB f)).run⟩ := luF_un (unF_stuff _)
  unfold lawFr
  refine fill_pre hf (List.IsPrefix.trans (List.prefix_append _ _ : bodyB f <+: plainB f) (?_ : plainB f <+: _))
  have : luF (stuffB (plainB f) ++ y) stI = luF y (luF (stuffB (plainB f)) stI) := by unfold luF; rw [List.foldl_append]
  rw [this, h1]
  exact luF_acc y ⟨plainB f, (stF (plainB f)).last, (stF (plainB f)).run⟩
theorem law_begins {W : List Bool} : Bg W ↔ AG W (lawFr W) := by
  constructor
  · rintro ⟨f, hf, a⟩
    by_cases hl : W.length ≤ (stuffB (plainB f)).length
    · have hp := a.short hl
      obtain ⟨s, hs, hsa⟩ := un_of_pre (unF_stuff (plainB f)) hp
      have : luF W stI = s := luF_un hs
      unfold lawFr
      rw [this]
      exact AG.of_pre (un_pre hs (fill_begins hf hsa))
    · rw [lawFr_long hf (a.long (by omega))]; exact a
  · intro a; exact ⟨_, lawFr_ok W, a⟩
/-- how many bits begin a frame -/
theorem good_of (W : List Bool) : match readW W with
    | .inl k => k ≤ W.length ∧ (∀ m, m ≤ W.length → (AG (W.take m) (lawFr (W.take m)) ↔ m ≤ k)) ∧ ¬ (k = W.length ∧ W.length = (wireB (lawFr (W.take k))).length)
    | .inr p => (∀ m, AG (W.take m) (lawFr (W.take m))) ∧ ∃ f : Frm, f.Ok ∧ p = plainB f ∧ lawFr W = f ∧ AG W f ∧ W.length = (wireB f).length := by
  have h := readW_spec W
  have mono : ∀ {a b : Nat}, a ≤ b → Bg (W.take b) → Bg (W.take a) := fun {a b} hab hb => by
    have := hb.take a
    rwa [List.take_take, show min a b = a from by omega] at this
  cases hr : readW W with
  | inl k =>
    rw [hr] at h
    obtain ⟨h1, h2, h3, h4⟩ := h
    refine ⟨h1, fun m hm => ⟨fun a => Nat.le_of_not_lt fun hlt => h3 (by omega) (mono (by omega) (law_begins.mpr a)), fun hk => law_begins.mp (mono hk h2)⟩, fun ⟨e1, e2⟩ => ?_⟩
    rw [e1, List.take_length] at h2 e2
    exact h4 e1 _ (lawFr_ok W) (law_begins.mp h2) e2
  | inr p =>
    rw [hr] at h
    obtain ⟨f, hf, e, a, el⟩ := h
    have wl := wire_len f
    refine ⟨fun m => law_begins.mp ⟨f, hf, a.take m⟩, f, hf, e, lawFr_long hf (a.long (by omega)), a, el⟩
/-! ### wires of frames -/
theorem plainB_len {f : Frm} (h : f.Ok) : (plainB f).length ≤ 118 := by
  have := bodyB_len h
  unfold plainB
  simp [rbits]; omega
theorem ones10 : bI (List.replicate 10 true) = List.replicate 10 (D.int 1) := rfl
theorem mul_t10 : mulD (.tup [.int 1]) (.int 10) = some (.tup (bI (List.replicate 10 true))) := by
  show (if (decide (-(2 ^ 63) ≤ (10 : Int) ∧ (10 : Int) < 2 ^ 63) && decide ([D.int 1].length * (10 : Int).toNat ≤ 1000000)) = true then some (D.tup (List.replicate (10 : Int).toNat [D.int 1]).flatten) else none) = _
  rw [if_pos (by decide)]
  rfl
theorem mul_l10 : mulD (.lst [.int 1]) (.int 10) = some (.lst (bI (List.replicate 10 true))) := by
  show (if (decide (-(2 ^ 63) ≤ (10 : Int) ∧ (10 : Int) < 2 ^ 63) && decide ([D.int 1].length * (10 : Int).toNat ≤ sizeLine)) = true then some (D.lst (List.replicate (10 : Int).toNat [D.int 1]).flatten) else none) = _
  rw [if_pos (by decide)]
  rfl
theorem wireB_len {f : Frm} (h : f.Ok) : (wireB f).length ≤ 246 := by
  have := stuffB_len (plainB f)
  have := plainB_len h
  unfold wireB
  simp; omega
theorem wire_bits_ok (f : Frm) (hk : f.Ok) (n : Nat) (o : Obs) : Fc (n + 6) "wire_bits" [frD f] o = .ok (.tup (bI (wireB f))) o := by
  rw [r_wire_bits]
  have e1 := plain_bits_ok f hk n o
  have pl := plainB_len hk
  have e2 := stuffed_ok (.tup (bI (plainB f))) (plainB f) rfl (by omega) (n + 3) o
  have e3 := mul_t10
  have sl := stuffB_len (plainB f)
  unfold wireB
  rw [bI_app]
  generalize stuffB (plainB f) = z at *
  have ol : (List.replicate 10 true).length = 10 := by simp
  generalize List.replicate 10 true = ones at *
  have h1 : z.length + ones.length ≤ 16777216 := by omega
  simp [m_wire_bits, e1, e2, e3, h1]
theorem law_plain_ok (f : Frm) (hk : f.Ok) (n : Nat) (o : Obs) : Fc (n + 3) "_law_plain" [frD f] o = .ok (.lst (bI (plainB f))) o := by
  rw [r__law_plain]
  have bl := bodyB_len hk
  have e1 := law_body_ok f (by have := hk.len; omega) n o
  have e2 := law_check_ok (.lst (bI (bodyB f))) (bodyB f) rfl (by simp) (by omega) n o
  have rl : (rbits (crc 0 (bodyB f)) 15).length = 15 := by simp [rbits]
  have h1 : (bodyB f).length + (rbits (crc 0 (bodyB f)) 15).length ≤ 16777216 := by omega
  unfold plainB
  rw [bI_app]
  simp [m__law_plain, e1, e2, h1]
theorem law_wire_ok (f : Frm) (hk : f.Ok) (n : Nat) (o : Obs) (ho : o.all noLO = true) : Fc (n + 4) "_law_wire" [frD f] o = .ok (.tup (bI (wireB f))) o := by
  rw [r__law_wire]
  have e1 := law_plain_ok f hk n o
  have pl := plainB_len hk
  have e2 := law_stuffed_ok (.lst (bI (plainB f))) (plainB f) rfl (by omega) (n + 2) o ho
  have e3 := mul_l10
  have sl := stuffB_len (plainB f)
  unfold wireB
  rw [bI_app]
  generalize stuffB (plainB f) = z at *
  have h1 : z.length + 10 ≤ 16777216 := by omega
  simp [m__law_wire, e1, e2, e3, h1]
end Mp

set_option Elab.async false
set_option linter.all false
set_option maxRecDepth 100000
namespace Mp
open PySem PySem.Spec PyProof.Rows L2
/-! ### bits read in the text -/
def qD (t : Bool) (p : List Bool) : D := cond t (.tup (bI p)) (.lst (bI p))
theorem q_seq (t : Bool) (p : List Bool) : seqD (qD t p) = some (bI p) := by cases t <;> rfl
theorem q_len (t : Bool) (p : List Bool) : biD "len" [qD t p] = some (.int (p.length : Nat)) := by cases t <;> simp [qD]
theorem q_ix (t : Bool) {p : List Bool} {i : Nat} (h : i < p.length) : ixD (qD t p) (.int (i : Nat)) = some (.int (b2i (rho p i))) := by
  have e := bI_at (List.getElem?_eq_getElem h)
  rw [rho_get (List.getElem?_eq_getElem h)]
  cases t
  · exact e
  · exact e
theorem q_sl (t : Bool) {p q : List Bool} {lo hi : Option Int} (h : cutD (bI p) lo hi = bI q) : slD (qD t p) lo hi = some (qD t q) := by
  cases t
  · show some (D.lst (cutD (bI p) lo hi)) = _; rw [h]; rfl
  · show some (D.tup (cutD (bI p) lo hi)) = _; rw [h]; rfl
theorem cutI_mid (p : List Bool) (a b : Nat) (h : a ≤ b) : cutD (bI p) (some (a : Nat)) (some (b : Nat)) = bI ((p.drop a).take (b - a)) := by
  rw [cut_mid (by omega) (by omega)]
  simp [bI, List.map_take, List.map_drop]
theorem part_rho {p : List Bool} {a s : Nat} (h : a + s ≤ p.length) : (p.drop a).take s = (List.range s).map fun k => rho p (a + k) := by
  apply List.ext_getElem?
  intro k
  rw [List.getElem?_take]
  by_cases hk : k < s
  · have hk2 : a + k < p.length := by omega
    rw [if_pos hk, List.getElem?_drop, List.getElem?_map, List.getElem?_range hk, List.getElem?_eq_getElem hk2]
    simp only [Option.map_some]
    rw [rho_get (List.getElem?_eq_getElem hk2)]
  · rw [if_neg hk, List.getElem?_eq_none (by simp; omega)]
def numB (p : List Bool) : Nat := p.foldl (fun x b => 2 * x + b.toNat) 0
theorem numB_Nf (r : Nat → Bool) (a : Nat) : ∀ s, numB ((List.range s).map fun k => r (a + k)) = Nf r a s
  | 0 => rfl
  | s + 1 => by
    rw [List.range_succ, List.map_append]
    unfold numB Nf
    rw [List.foldl_append]
    have := numB_Nf r a s
    unfold numB at this
    rw [this]; rfl
theorem number_of_ok (X : D) (bs : List Bool) (hX : seqD X = some (bI bs)) (n : Nat) (o : Obs) : Fc (n + 1) "number_of" [X] o = .ok (.int (numB bs : Nat)) o := by
  rw [r_number_of]
  simp [m_number_of, hX]
  refine endR_seq (forD_wp (fun i env o' => o' = o ∧ ∃ s2, env = [.v X, .v (.int (numB (bs.take i) : Nat)), s2]) (i := 0) ⟨rfl, .un, rfl⟩ ?_ ?_)
  · rintro i d env o' hi ⟨rfl, s2, rfl⟩
    have hi2 : i < bs.length := by
      have := (List.getElem?_eq_some_iff.mp hi).1
      simpa using this
    have hb : bs[i]? = some bs[i] := List.getElem?_eq_getElem hi2
    rw [bI_get hb] at hi
    cases hi
    refine ⟨_, rfl, ?_⟩
    rw [Nat.zero_add]
    have e2 : numB (bs.take (i + 1)) = 2 * numB (bs.take i) + bs[i].toNat := by
      rw [List.take_add_one, hb]; unfold numB; rw [List.foldl_append]; rfl
    rw [e2]
    generalize numB (bs.take i) = z
    generalize bs[i] = b
    have m1 : mulOk (z : Int) 2 = true := mulOk_r (by decide)
    cases b <;> simp [w_number_of_0, m1, b2i] <;> omega
  · rintro env o' ⟨rfl, s2, rfl⟩
    simp
theorem part_num (t : Bool) (p : List Bool) (a s : Nat) (h : a + s ≤ p.length) (n : Nat) (o : Obs) : Fc (n + 1) "number_of" [qD t ((p.drop a).take s)] o = .ok (.int (Nf (rho p) a s : Nat)) o := by
  rw [number_of_ok _ _ (q_seq _ _), part_rho h, numB_Nf]
theorem head_size_ok (t : Bool) (p : List Bool) (h : 13 < p.length) (n : Nat) (o : Obs) : Fc (n + 1) "head_size" [qD t p] o = .ok (.int (headN (rho p 13) : Nat)) o := by
  rw [r_head_size]
  have e := q_ix t h
  simp at e
  cases hb : rho p 13 <;> rw [hb] at e <;> simp [m_head_size, e, b2i, headN]
theorem is_asked_ok (t : Bool) (p : List Bool) (l : Bool) (h : askN l < p.length) (n : Nat) (o : Obs) : Fc (n + 1) "is_asked_by" [qD t p, .int (headN l : Nat)] o = .ok (.bl (rho p (askN l))) o := by
  rw [r_is_asked_by]
  have e := q_ix t h
  cases l
  · simp [askN] at e
    cases hb : rho p 12 <;> rw [hb] at e <;> simp [m_is_asked_by, e, b2i, headN, askN, hb]
  · simp [askN] at e
    cases hb : rho p 32 <;> rw [hb] at e <;> simp [m_is_asked_by, e, b2i, headN, askN, hb]
theorem due_head_ok (p : List Bool) (h14 : 14 ≤ p.length) (hh : p.length < headN (rho p 13)) (n : Nat) (o : Obs) : Fc (n + 2) "due_in_head" [qD true p] o = .ok (lastD (dueH (rho p) p.length)) o := by
  rw [r_due_in_head]
  have e1 := head_size_ok true p (by omega) n o
  have e2 := q_len true p
  have hak := askN_lt (rho p 13)
  obtain ⟨l, hl⟩ : ∃ l, l = rho p 13 := ⟨_, rfl⟩
  rw [← hl] at e1 hh hak
  unfold dueH
  rw [← hl]
  by_cases h4 : p.length < headN l - 4
  · rw [if_pos h4]
    have h4' : (p.length : Int) < (headN l : Nat) - 4 := by have := headN_le l; omega
    by_cases ha : askN l < p.length
    · rw [if_pos ha]
      cases l
      · simp [headN] at e1 h4'; simp [askN] at ha
        have ha' : (12 : Int) < p.length := by omega
        simp [m_due_in_head, e1, e2, h4', ha', lastD, b2i]
      · simp [headN] at e1 h4'; simp [askN] at ha
        have ha' : (32 : Int) < p.length := by omega
        simp [m_due_in_head, e1, e2, h4', ha', lastD, b2i]
    · rw [if_neg ha]
      cases l
      · simp [askN] at ha; omega
      · simp [headN] at e1 h4'; simp [askN] at ha
        have ha' : ¬ (32 : Int) < p.length := by omega
        simp [m_due_in_head, e1, e2, h4', ha', lastD]
  · rw [if_neg h4]
    have h4' : ¬ (p.length : Int) < (headN l : Nat) - 4 := by have := headN_le l; omega
    have e3 := is_asked_ok true p l (by omega) n o
    cases hb : rho p (askN l) with
    | true =>
      rw [hb] at e3
      rw [if_pos rfl]
      simp [m_due_in_head, e1, e2, h4', e3, lastD, b2i]
    | false =>
      rw [hb] at e3
      rw [if_neg (by simp)]
      by_cases h5 : headN l - 4 < p.length
      · have h5' : (headN l : Int) - 4 < p.length := by have := headN_le l; omega
        have e4 := q_ix true h5
        have e5 : ((headN l - 4 : Nat) : Int) = (headN l : Int) - 4 := by have := headN_le l; omega
        rw [e5] at e4
        cases hq : rho p (headN l - 4)
        · rw [hq] at e4
          rw [if_neg (by simp)]
          simp [m_due_in_head, e1, e2, h4', e3, h5', e4, lastD, b2i]
        · rw [hq] at e4
          rw [if_pos ⟨h5, rfl⟩]
          simp [m_due_in_head, e1, e2, h4', e3, h5', e4, lastD, b2i]
      · have h5' : ¬ (headN l : Int) - 4 < p.length := by have := headN_le l; omega
        rw [if_neg (by omega)]
        simp [m_due_in_head, e1, e2, h4', e3, h5', lastD]
theorem rbits_at (r i : Nat) (h : i < 15) : (rbits r 15)[i]? = some ((rbits r 15).getD i false) := by
  have : i < (rbits r 15).length := by simp [rbits]; exact h
  rw [List.getD_eq_getElem?_getD, List.getElem?_eq_getElem this]; rfl
theorem due_bit_ok (p : List Bool) (hc : 14 ≤ p.length → headN (rho p 13) ≤ p.length → p.length < bodyN (rho p) + 15) (n : Nat) (o : Obs) : Fc (n + 5) "due_bit" [.tup (bI p)] o = .ok (lastD (dueB p)) o := by
  rw [r_due_bit]
  have e2 := q_len true p
  change biD "len" [D.tup (bI p)] = _ at e2
  unfold dueB
  by_cases h0 : p.length = 0
  · rw [if_pos h0]
    simp [m_due_bit, h0, lastD, b2i]
  · rw [if_neg h0]
    by_cases h14 : p.length < 14
    · rw [if_pos h14]
      have h14' : (p.length : Int) < 14 := by omega
      by_cases h13 : p.length = 13
      · have e3 := q_ix true (p := p) (i := 12) (by omega)
        change ixD (D.tup (bI p)) _ = _ at e3
        cases hb : rho p 12
        · rw [hb] at e3
          rw [if_pos ⟨h13, rfl⟩]
          simp at e3
          simp [m_due_bit, h0, h14', h13, e3, lastD, b2i]
        · rw [hb] at e3
          rw [if_neg (by simp)]
          simp at e3
          simp [m_due_bit, h0, h14', h13, e3, lastD, b2i]
      · have h13' : ¬ (p.length : Int) = 13 := by omega
        rw [if_neg (fun z => h13 z.1)]
        simp [m_due_bit, h0, h14', h13', lastD]
    · rw [if_neg h14]
      have h14' : ¬ (p.length : Int) < 14 := by omega
      have e1 := head_size_ok true p (by omega) (n + 3) o
      change Fc (n + 3 + 1) "head_size" [D.tup (bI p)] o = _ at e1
      have hN := headN_le (rho p 13)
      by_cases hh : p.length < headN (rho p 13)
      · rw [if_pos hh]
        have hh' : (p.length : Int) < (headN (rho p 13) : Nat) := by omega
        have e3 := due_head_ok p (by omega) hh (n + 2) o
        change Fc (n + 2 + 2) "due_in_head" [D.tup (bI p)] o = _ at e3
        simp [m_due_bit, h0, h14', e1, hh', e3]
      · rw [if_neg hh]
        have hh' : ¬ (p.length : Int) < (headN (rho p 13) : Nat) := by omega
        have hc := hc (by omega) (by omega)
        have e4 := part_num true p (headN (rho p 13) - 4) 4 (by omega) (n + 3) o
        change Fc (n + 3 + 1) "number_of" [D.tup (bI ((p.drop (headN (rho p 13) - 4)).take 4))] o = _ at e4
        have c1 := cutI_mid p (headN (rho p 13) - 4) (headN (rho p 13)) (by omega)
        rw [show headN (rho p 13) - (headN (rho p 13) - 4) = 4 from by omega, show ((headN (rho p 13) - 4 : Nat) : Int) = (headN (rho p 13) : Nat) - 4 from by omega] at c1
        have hbN : bodyN (rho p) = headN (rho p 13) + 8 * Nf (rho p) (headN (rho p 13) - 4) 4 := rfl
        have m1 : mulOk 8 ((Nf (rho p) (headN (rho p 13) - 4) 4 : Nat) : Int) = true := mulOk_l (by decide)
        generalize Nf (rho p) (headN (rho p 13) - 4) 4 = N at *
        generalize headN (rho p 13) = hN' at *
        by_cases hb : p.length < bodyN (rho p)
        · rw [if_pos hb]
          have hb' : (p.length : Int) < (hN' : Int) + 8 * (N : Int) := by omega
          simp [m_due_bit, h0, h14', e1, hh', c1, e4, m1, hb', lastD]
        · rw [if_neg hb]
          have hb' : ¬ (p.length : Int) < (hN' : Int) + 8 * (N : Int) := by omega
          have c2 := cutI_to p (bodyN (rho p))
          have e6 := check_bits_ok (.tup (bI (p.take (bodyN (rho p))))) (p.take (bodyN (rho p))) rfl n o
          have e7 := bI_at (rbits_at (crc 0 (p.take (bodyN (rho p)))) (p.length - bodyN (rho p)) (by omega))
          rw [show ((p.length - bodyN (rho p) : Nat) : Int) = (p.length : Int) - ((hN' : Int) + 8 * (N : Int)) from by omega] at e7
          rw [show ((bodyN (rho p) : Nat) : Int) = (hN' : Int) + 8 * (N : Int) from by omega] at c2
          simp [m_due_bit, h0, h14', e1, hh', c1, e4, m1, hb', c2, e6, e7, lastD]
def sizeD (p : List Bool) : D := match sizeB p with
  | none => .non
  | some m => .int (m : Nat)
theorem plain_size_ok (t : Bool) (p : List Bool) (n : Nat) (o : Obs) : Fc (n + 2) "plain_size" [qD t p] o = .ok (sizeD p) o := by
  rw [r_plain_size]
  have e2 := q_len t p
  unfold sizeD sizeB
  by_cases h14 : p.length < 14
  · have h14' : (p.length : Int) < 14 := by omega
    rw [if_pos (.inl h14)]
    simp [m_plain_size, e2, h14']
  · have h14' : ¬ (p.length : Int) < 14 := by omega
    have e1 := head_size_ok t p (by omega) n o
    have hN := headN_le (rho p 13)
    by_cases hh : p.length < headN (rho p 13)
    · rw [if_pos (.inr hh)]
      have hh' : (p.length : Int) < (headN (rho p 13) : Nat) := by omega
      simp [m_plain_size, e2, h14', e1, hh']
    · rw [if_neg (by omega)]
      have hh' : ¬ (p.length : Int) < (headN (rho p 13) : Nat) := by omega
      have e4 := part_num t p (headN (rho p 13) - 4) 4 (by omega) n o
      have c1 := cutI_mid p (headN (rho p 13) - 4) (headN (rho p 13)) (by omega)
      rw [show headN (rho p 13) - (headN (rho p 13) - 4) = 4 from by omega, show ((headN (rho p 13) - 4 : Nat) : Int) = (headN (rho p 13) : Nat) - 4 from by omega] at c1
      have s1 := q_sl t c1
      have m1 : mulOk 8 ((Nf (rho p) (headN (rho p 13) - 4) 4 : Nat) : Int) = true := mulOk_l (by decide)
      unfold bodyN
      generalize Nf (rho p) (headN (rho p 13) - 4) 4 = N at *
      generalize headN (rho p 13) = hN' at *
      simp [m_plain_size, e2, h14', e1, hh', s1, e4, m1]
theorem cond_plain {f : Frm} (hf : f.Ok) : fillR (rho (plainB f)) = f ∧ lenN (rho (plainB f)) = Nf (rho (plainB f)) (headN (rho (plainB f) 13) - 4) 4 ∧ (plainB f).length = headN (rho (plainB f) 13) + 8 * lenN (rho (plainB f)) + 15 := by
  have h1 : fillR (rho (plainB f)) = f := fill_pre hf (List.prefix_append _ _)
  have bl := body_len (rho (plainB f))
  rw [h1] at bl
  have pl : (plainB f).length = (bodyB f).length + 15 := by unfold plainB; simp [rbits]
  have hN := headN_le (rho (plainB f) 13)
  have h2 := bodyN_of hf (List.prefix_refl (plainB f)) (by omega) (by omega)
  unfold bodyN at h2
  exact ⟨h1, by omega, by omega⟩
theorem frame_of_ok (t : Bool) (f : Frm) (hf : f.Ok) (n : Nat) (o : Obs) : Fc (n + 2) "frame_of" [qD t (plainB f)] o = .ok (frD f) o := by
  rw [r_frame_of]
  obtain ⟨hfill, hlen, hpl⟩ := cond_plain hf
  generalize plainB f = p at hfill hlen hpl ⊢
  have hN := headN_le (rho p 13)
  have hak := askN_lt (rho p 13)
  have l8 : lenN (rho p) ≤ 8 := by unfold lenN; split <;> omega
  have e1 := head_size_ok t p (by omega) n o
  have e2 := part_num t p 1 11 (by omega) n o
  have c2 := q_sl t (cutI_mid p 1 12 (by omega))
  have e3 := part_num t p 14 18 (by omega) n o
  have c3 := q_sl t (cutI_mid p 14 32 (by omega))
  have e4 := part_num t p (headN (rho p 13) - 4) 4 (by omega) n o
  have c4 := cutI_mid p (headN (rho p 13) - 4) (headN (rho p 13)) (by omega)
  rw [show headN (rho p 13) - (headN (rho p 13) - 4) = 4 from by omega, show ((headN (rho p 13) - 4 : Nat) : Int) = (headN (rho p 13) : Nat) - 4 from by omega] at c4
  have c4 := q_sl t c4
  rw [← hlen] at e4
  have e5 := is_asked_ok t p (rho p 13) (by omega) n o
  have hdata : dataD f.data = (rangeD 0 (lenN (rho p)) 1).map fun d => match d with | .int i => .int (Nf (rho p) (headN (rho p 13) + 8 * i.toNat) 8 : Nat) | _ => .non := by
    have : f.data = (List.range (lenN (rho p))).map fun k => Nf (rho p) (headN (rho p 13) + 8 * k) 8 := by
      conv => lhs; rw [← hfill]
      show (if rho p (askN (rho p 13)) then [] else _) = _
      unfold lenN
      split <;> rfl
    rw [this]
    unfold dataD rangeD
    rw [List.map_map, List.map_map]
    apply List.map_congr_left
    intro k _
    show D.int _ = D.int _
    rw [show ((0 : Int) + (k : Nat) * 1).toNat = k from by omega]
  have lc := lcD_map (own := [6]) (tg := .nm 6) (t := denC (Fc (n + 1)) Gl .none) (x := denE (Fc (n + 1)) Gl (.call "number_of" (.cons (.sl (.var 0) (.some (.bin .Add (.var 1) (.bin .Mult (.lit (.int 8)) (.var 6)))) (.some (.bin .Add (.bin .Add (.var 1) (.bin .Mult (.lit (.int 8)) (.var 6))) (.lit (.int 8))))) .nil)))
    (env := [.v (qD t p), .v (.int (headN (rho p 13) : Nat)), .v (.bl (rho p 13)), .v (.int (f.num : Nat)), .v (.int (lenN (rho p) : Nat)), .un, .un]) (o := o) (p := fun _ => true)
    (f := fun d => match d with | .int i => .int (Nf (rho p) (headN (rho p 13) + 8 * i.toNat) 8 : Nat) | _ => .non) (ds := rangeD 0 (lenN (rho p)) 1) (acc := []) (by simp [rangeD_len]; omega) (fun d hd => by
      obtain ⟨k, hk⟩ := List.getElem?_of_mem hd
      obtain ⟨hk2, rfl⟩ := rangeD_at hk
      rw [show (0 : Int) + (k : Nat) * 1 = (k : Nat) from by omega]
      refine ⟨_, rfl, by simp, fun _ => ?_⟩
      simp only [Int.toNat_natCast]
      have e6 := part_num t p (headN (rho p 13) + 8 * k) 8 (by omega) n o
      have c6 := cutI_mid p (headN (rho p 13) + 8 * k) (headN (rho p 13) + 8 * k + 8) (by omega)
      rw [show headN (rho p 13) + 8 * k + 8 - (headN (rho p 13) + 8 * k) = 8 from by omega, show ((headN (rho p 13) + 8 * k + 8 : Nat) : Int) = (headN (rho p 13) : Int) + 8 * (k : Int) + 8 from by omega, show ((headN (rho p 13) + 8 * k : Nat) : Int) = (headN (rho p 13) : Int) + 8 * (k : Int) from by omega] at c6
      have c6 := q_sl t c6
      have m6 : mulOk 8 (k : Int) = true := mulOk_l (by decide)
      simp [m6, c6, e6])
  rw [filter_true, List.nil_append, ← hdata] at lc
  have hl13 : f.lng = rho p 13 := by rw [← hfill]; rfl
  have hask : f.ask = rho p (askN (rho p 13)) := (congrArg Frm.ask hfill).symm
  have hnum : f.num = if rho p 13 then Nf (rho p) 1 11 * 262144 + Nf (rho p) 14 18 else Nf (rho p) 1 11 := (congrArg Frm.num hfill).symm
  have hsm : smallI ((lenN (rho p) : Nat) : Int) = true := smallI_nat _ (by omega)
  unfold frD
  rw [hl13, hask]
  simp at c2 c3 e2 e3
  generalize rho p (askN (rho p 13)) = ak at *
  obtain ⟨l, hl⟩ : ∃ l, l = rho p 13 := ⟨_, rfl⟩
  rw [← hl] at e1 e4 c4 e5 lc hnum ⊢
  cases l
  · rw [if_neg (by simp)] at hnum
    rw [hnum] at lc ⊢
    simp [headN] at e1 e4 c4 e5 lc
    simp [m_frame_of, e1, c2, e2, c4, e4, hsm, lc, e5]
  · rw [if_pos rfl] at hnum
    have m7 : mulOk ((Nf (rho p) 1 11 : Nat) : Int) 262144 = true := mulOk_r (by decide)
    have hnum' : ((Nf (rho p) 1 11 : Nat) : Int) * 262144 + ((Nf (rho p) 14 18 : Nat) : Int) = (f.num : Nat) := by omega
    simp [headN] at e1 e4 c4 e5 lc
    clear hnum hdata hfill hlen hpl
    generalize Nf (rho p) 1 11 = A at *
    generalize Nf (rho p) 14 18 = B at *
    generalize (f.num : Int) = C at *
    have a7 : addD (.int ((A : Int) * 262144)) (.int (B : Nat)) = some (.int C) := by rw [← hnum']; rfl
    simp [m_frame_of, e1, c2, e2, c3, e3, m7, hnum', c4, e4, hsm, lc, e5]
end Mp

set_option Elab.async false
set_option linter.all false
set_option maxRecDepth 100000
namespace Mp
open PySem PySem.Spec PyProof.Rows L2
/-! ### plain bits read off a wire in the text -/
theorem forD_cons (tg : Tg) (b : Env → Obs → RS) (d : D) (ds : List D) (env : Env) (o : Obs) : forD tg b (d :: ds) env o = match setTg tg d env with
    | none => .bad
    | some env => match b env o with
      | .nx e o => forD tg b ds e o
      | .ct e o => forD tg b ds e o
      | .bk e o => .nx e o
      | y => y := rfl
theorem noL_last (l : Option Bool) : noL (lastD l) = true := by cases l <;> rfl
theorem size_ne (p : List Bool) : cmpD .NotEq (sizeD p) (.int (p.length : Nat)) = some (!decide (sizeB p = some p.length)) := by
  unfold sizeD
  cases h : sizeB p with
  | none => rfl
  | some m =>
    show some (!((m : Int) == (p.length : Int))) = _
    congr 2
    by_cases e : m = p.length
    · rw [e]; simp
    · have e2 : ¬ (m : Int) = (p.length : Int) := by omega
      have e3 : ¬ (some m = some p.length) := fun z => e (Option.some.inj z)
      rw [decide_eq_false e3]
      exact beq_eq_false_iff_ne.mpr e2
abbrev moreE : E := .bor 1 (.dis (.cons (.cmp .Eq (.var 3) (.glob "MOST_LIKE")) (.cons (.cmp .NotEq (.call "plain_size" (.cons (.var 1) .nil)) (.bi "len" (.cons (.var 1) .nil))) .nil)))
theorem more_ok (X : D) (s : StB) (e4 e5 : Sl) (n : Nat) (o : Obs) (ho : o.all noLO = true) : denT (Fc (n + 2)) Gl moreE [.v X, .ol (bI s.acc), .v (lastD s.last), .v (.int (s.run : Nat)), e4, e5] o = .ok (moreB s) o := by
  have e1 := plain_size_ok false s.acc n o
  change Fc (n + 2) "plain_size" [D.lst (bI s.acc)] o = _ at e1
  have e2 := size_ne s.acc
  unfold moreB
  simp only [moreE]
  by_cases h5 : s.run = 5
  · rw [decide_eq_true h5]
    simp [h5, ho]
  · have h5' : ¬ ((s.run : Nat) : Int) = 5 := by omega
    rw [decide_eq_false h5]
    simp [h5', ho, e1, e2]
theorem rp_turn (W : List Bool) (s : StB) (b : Bool) (i : Nat) (e5 : Sl) (hi : W[i]? = some b) (hl : W.length < 1000000) (hs : s.acc.length < 1000000) (h5l : s.run = 5 → s.last ≠ none)
    (hc : s.run ≠ 5 → 14 ≤ s.acc.length → headN (rho s.acc 13) ≤ s.acc.length → s.acc.length < bodyN (rho s.acc) + 15) (n : Nat) (o : Obs) (ho : o.all noLO = true) :
    match rdS s b with
    | none => ∃ e, denSs (Fc (n + 5)) Gl lawM w_read_plain_0 [.v (.tup (bI W)), .ol (bI s.acc), .v (lastD s.last), .v (.int (s.run : Nat)), .v (.int (i : Nat)), e5] o = .ex "BadBits" (.int (i : Nat)) e o
    | some t => ∃ e, denSs (Fc (n + 5)) Gl lawM w_read_plain_0 [.v (.tup (bI W)), .ol (bI s.acc), .v (lastD s.last), .v (.int (s.run : Nat)), .v (.int (i : Nat)), e5] o = .nx [.v (.tup (bI W)), .ol (bI t.acc), .v (lastD t.last), .v (.int (t.run : Nat)), .v (.int ((i + 1 : Nat) : Int)), e] o := by
  have hiW := (List.getElem?_eq_some_iff.mp hi).1
  have a1 := bI_at hi
  have ni : ¬ (i : Int) = (W.length : Nat) := by omega
  have hi6 : i < 1000000 := by omega
  obtain ⟨acc, last, run⟩ := s
  simp only at hs h5l hc ⊢
  have hs2 : acc.length < 16777216 := by omega
  unfold rdS
  simp only
  by_cases h5 : run = 5
  · subst h5
    rw [if_pos rfl]
    obtain ⟨c, rfl⟩ : ∃ c, last = some c := Option.ne_none_iff_exists'.mp (h5l rfl)
    have e1 := other_ok c (n + 4) o
    have il : lastD (some c) = .int (b2i c) := rfl
    by_cases hcb : c = b
    · subst hcb
      rw [if_pos rfl]
      refine ⟨[.v (.tup (bI W)), .ol (bI acc), .v (.int (b2i c)), .v (.int 5), .v (.int (i : Nat)), .v (.int (b2i (!c)))], ?_⟩
      cases c <;> simp [b2i] at e1 a1 <;> simp [w_read_plain_0, il, b2i, e1, a1, ni, hi6, ho, noL]
    · have hbc : b = !c := by cases b <;> cases c <;> simp_all
      subst hbc
      rw [if_neg (by simp)]
      refine ⟨.v (.int (b2i (!c))), ?_⟩
      cases c <;> simp [b2i] at e1 a1 <;> simp [w_read_plain_0, il, b2i, e1, a1, ni, hi6, ho, noL, lastD]
  · have h5' : ¬ ((run : Nat) : Int) = 5 := by omega
    rw [if_neg h5]
    have e1 := due_bit_ok acc (hc h5) n o
    have e2 := behind_run last run b (n + 4) o
    have nl := noL_last (dueB acc)
    cases hd : dueB acc with
    | none =>
      rw [hd] at e1
      rw [if_neg (by simp)]
      refine ⟨.v .non, ?_⟩
      simp [lastD] at e1
      simp [w_read_plain_0, h5', e1, a1, ni, ho, noL, e2, hs2, bI_app]
      exact ⟨rfl, rfl⟩
    | some d =>
      rw [hd] at e1
      by_cases hdb : d = b
      · subst hdb
        rw [if_neg (by cases d <;> simp)]
        refine ⟨.v (.int (b2i d)), ?_⟩
        simp [lastD] at e1
        simp [w_read_plain_0, h5', e1, a1, ni, ho, noL, e2, hs2, bI_app]
        exact ⟨rfl, rfl⟩
      · have hbd : d = !b := by cases b <;> cases d <;> simp_all
        subst hbd
        rw [if_pos rfl]
        refine ⟨[.v (.tup (bI W)), .ol (bI acc), .v (lastD last), .v (.int (run : Nat)), .v (.int (i : Nat)), .v (.int (b2i (!b)))], ?_⟩
        simp [lastD] at e1
        have nb : ¬ b2i b = b2i (!b) := by cases b <;> decide
        simp [w_read_plain_0, h5', e1, a1, ni, ho, noL, hi6, nb]
theorem whileD_step (c : Env → Obs → R Bool) (b : Env → Obs → RS) (m : Nat) (e : Env) (o : Obs) (k : Bool) (h : c e o = .ok k o) : whileD c b (m + 1) e o = if k then (match b e o with
    | .nx e o => whileD c b m e o
    | .ct e o => whileD c b m e o
    | .bk e o => .nx e o
    | y => y) else .nx e o := by
  show (c e o).st e _ = _
  rw [h]; rfl
theorem RdI.hyp {x : List Bool} {s : StB} (I : RdI x s) (hm : moreB s = true) : (s.run = 5 → s.last ≠ none) ∧ (s.run ≠ 5 → 14 ≤ s.acc.length → headN (rho s.acc 13) ≤ s.acc.length → s.acc.length < bodyN (rho s.acc) + 15) := by
  obtain ⟨r1, r2⟩ := un_RI x I.un
  refine ⟨fun h5 hn => ?_, fun h5 h1 h2 => ?_⟩
  · rw [hn] at r1
    have := r1.2
    omega
  · obtain ⟨f, hf, hp⟩ := I.ex
    have hne : s.acc ≠ plainB f := fun z => more_ne hm h5 ((size_of hf hp).mpr z)
    have pl : (plainB f).length = (bodyB f).length + 15 := by unfold plainB; simp [rbits]
    rw [bodyN_of hf hp h1 h2]
    have := hp.length_le
    refine Nat.lt_of_le_of_ne (by omega) fun z => hne (List.IsPrefix.eq_of_length hp (by omega))
theorem rp_loop (W : List Bool) (hl : W.length < 900000) (n : Nat) (o : Obs) (ho : o.all noLO = true) : ∀ (r x : List Bool) (s : StB) (m : Nat) (e5 : Sl), W = x ++ r → RdI x s → s.acc.length ≤ x.length → r.length < m →
    match rdL r s x.length with
    | .inl k => ∃ e, whileD (denT (Fc (n + 5)) Gl moreE) (denSs (Fc (n + 5)) Gl lawM w_read_plain_0) m [.v (.tup (bI W)), .ol (bI s.acc), .v (lastD s.last), .v (.int (s.run : Nat)), .v (.int (x.length : Nat)), e5] o = .ex "BadBits" (.int (k : Nat)) e o
    | .inr (t, i) => ∃ e5', whileD (denT (Fc (n + 5)) Gl moreE) (denSs (Fc (n + 5)) Gl lawM w_read_plain_0) m [.v (.tup (bI W)), .ol (bI s.acc), .v (lastD s.last), .v (.int (s.run : Nat)), .v (.int (x.length : Nat)), e5] o = .nx [.v (.tup (bI W)), .ol (bI t.acc), .v (lastD t.last), .v (.int (t.run : Nat)), .v (.int (i : Nat)), e5'] o
  | r, x, s, 0, e5, hW, I, ha, hm => absurd hm (Nat.not_lt_zero _)
  | r, x, s, m + 1, e5, hW, I, ha, hm => by
    have hc := more_ok (.tup (bI W)) s (.v (.int (x.length : Nat))) e5 (n + 3) o ho
    rw [whileD_step _ _ _ _ _ _ hc]
    unfold rdL
    cases hmo : moreB s with
    | false =>
      rw [if_neg (by simp)]
      exact ⟨e5, by rw [if_neg (by simp)]⟩
    | true =>
      rw [if_pos rfl, if_pos rfl]
      cases r with
      | nil =>
        rw [List.append_nil] at hW
        subst hW
        have hx : W.length < 1000000 := by omega
        refine ⟨[.v (.tup (bI W)), .ol (bI s.acc), .v (lastD s.last), .v (.int (s.run : Nat)), .v (.int (W.length : Nat)), e5], ?_⟩
        simp [w_read_plain_0, hx]
      | cons b r =>
        have hlx : x.length < W.length := by rw [hW]; simp
        have hi : W[x.length]? = some b := by rw [hW, List.getElem?_append_right (Nat.le_refl _)]; simp
        obtain ⟨h1, h2⟩ := I.hyp hmo
        have tn := rp_turn W s b x.length e5 hi (by omega) (by omega) h1 h2 n o ho
        cases hs : rdS s b with
        | none =>
          rw [hs] at tn
          obtain ⟨e, he⟩ := tn
          simp only [hs]
          exact ⟨e, by rw [he]⟩
        | some t =>
          rw [hs] at tn
          obtain ⟨e, he⟩ := tn
          simp only [hs]
          have hta : t.acc.length ≤ x.length + 1 := by
            unfold rdS at hs
            split at hs
            · split at hs
              · cases hs
              · cases hs; show s.acc.length ≤ _; omega
            · split at hs
              · cases hs
              · cases hs; show (s.acc ++ [b]).length ≤ _; simp; omega
          have ih := rp_loop W hl n o ho r (x ++ [b]) t m e (by rw [hW]; simp) (I.step hmo hs) (by simp; omega) (by simp at hm; omega)
          rw [show (x ++ [b]).length = x.length + 1 from by simp] at ih
          rw [he]
          exact ih
theorem read_plain_ok (W : List Bool) (hl : W.length < 4000) (n : Nat) (o : Obs) (ho : o.all noLO = true) : Fc (n + 6) "read_plain" [.tup (bI W)] o = match rdL W stI 0 with
    | .inl k => .ex "BadBits" (.int (k : Nat)) o
    | .inr (t, i) => .ok (.tup [.tup (bI t.acc), .int (i : Nat)]) o := by
  rw [r_read_plain]
  have h := rp_loop W (by omega) n o ho W [] stI lawM .un rfl RdI.start (by simp [stI]) (by show W.length < 5000; omega)
  simp only [List.length_nil] at h
  simp only [moreE] at h
  simp [stI, lastD, bI] at h
  simp [m_read_plain]
  simp only [stI]
  cases hr : rdL W ⟨[], none, 0⟩ 0 with
  | inl k =>
    rw [hr] at h
    obtain ⟨e, h⟩ := h
    rw [show bI W = W.map (fun b => D.int (b2i b)) from rfl, h]
    rfl
  | inr q =>
    obtain ⟨t, i⟩ := q
    rw [hr] at h
    obtain ⟨e, h⟩ := h
    rw [show bI W = W.map (fun b => D.int (b2i b)) from rfl, h]
    simp
    rfl
/-- the end of a wire -/
theorem tl_loop (W : List Bool) (P : D) (i : Nat) (hl : W.length < 900000) (n : Nat) (o : Obs) : ∀ (m j : Nat) (e1 : Sl), j + m = 10 → (∀ t, t < j → tbad W i t = false) → i + j ≤ W.length →
    match tlL W i m j with
    | some k => ∃ e, forD (.nm 1) (denSs (Fc n) Gl lawM w_read_wire_0) ((rangeD 0 10 1).drop j) [.v (.tup (bI W)), e1, .v P, .v (.int (i : Nat))] o = .ex "BadBits" (.int ((i + k : Nat) : Int)) e o
    | none => ∃ e1', forD (.nm 1) (denSs (Fc n) Gl lawM w_read_wire_0) ((rangeD 0 10 1).drop j) [.v (.tup (bI W)), e1, .v P, .v (.int (i : Nat))] o = .nx [.v (.tup (bI W)), e1', .v P, .v (.int (i : Nat))] o
  | 0, j, e1, hj, hb, hle => by
    have : (rangeD 0 10 1).drop j = [] := List.drop_eq_nil_of_le (by rw [rangeD_len]; omega)
    rw [this]
    exact ⟨e1, rfl⟩
  | m + 1, j, e1, hj, hb, hle => by
    have hd : (rangeD 0 10 1).drop j = .int (j : Nat) :: (rangeD 0 10 1).drop (j + 1) := by
      rw [List.drop_eq_getElem_cons (by rw [rangeD_len]; omega)]
      congr 1
      unfold rangeD
      simp
    rw [hd, forD_cons]
    have st : setTg (.nm 1) (.int (j : Nat)) [.v (.tup (bI W)), e1, .v P, .v (.int (i : Nat))] = some [.v (.tup (bI W)), .v (.int (j : Nat)), .v P, .v (.int (i : Nat))] := rfl
    rw [st]
    unfold tlL
    have h6 : i + j < 1000000 := by omega
    have h6' : ((i : Int) + (j : Int)).natAbs < 1000000 := by omega
    have cast : ((i + j : Nat) : Int) = (i : Int) + (j : Int) := by omega
    by_cases hend : i + j = W.length
    · have hb1 : tbad W i j = true := by unfold tbad; rw [decide_eq_true hend]; rfl
      have hend' : (i : Int) + (j : Int) = (W.length : Nat) := by omega
      rw [hb1, if_pos rfl]
      refine ⟨[.v (.tup (bI W)), .v (.int (j : Nat)), .v P, .v (.int (i : Nat))], ?_⟩
      rw [cast]
      have hW6 : W.length < 1000000 := by omega
      simp [w_read_wire_0, hend', hW6]
    · have hend' : ¬ (i : Int) + (j : Int) = (W.length : Nat) := by omega
      have hij : i + j < W.length := by omega
      have a1 := q_ix true hij
      change ixD (D.tup (bI W)) _ = _ at a1
      rw [cast] at a1
      have ih := tl_loop W P i hl n o m (j + 1) (.v (.int (j : Nat))) (by omega)
      by_cases hj1 : j = 1
      · subst hj1
        have hb1 : tbad W i 1 = false := by unfold tbad; rw [decide_eq_false hend]; rfl
        rw [hb1, if_neg (by simp)]
        have ih := ih (fun t ht => by
          by_cases e : t = 1
          · rw [e]; exact hb1
          · exact hb t (by omega)) (by omega)
        simp at hend'
        simp [w_read_wire_0, hend']
        exact ih
      · have hj1' : ¬ (j : Int) = 1 := by omega
        cases hr : rho W (i + j) with
        | true =>
          have hb1 : tbad W i j = false := by unfold tbad; rw [decide_eq_false hend, hr]; simp
          rw [hr] at a1
          rw [hb1, if_neg (by simp)]
          have ih := ih (fun t ht => by
            by_cases e : t = j
            · rw [e]; exact hb1
            · exact hb t (by omega)) (by omega)
          simp [w_read_wire_0, hend', hj1', a1, b2i]
          exact ih
        | false =>
          have hb1 : tbad W i j = true := by unfold tbad; rw [decide_eq_true hj1, hr]; simp
          rw [hr] at a1
          rw [hb1, if_pos rfl]
          refine ⟨[.v (.tup (bI W)), .v (.int (j : Nat)), .v P, .v (.int (i : Nat))], ?_⟩
          rw [cast]
          simp [w_read_wire_0, hend', hj1', a1, b2i, h6']
theorem read_wire_ok (W : List Bool) (hl : W.length < 4000) (n : Nat) (o : Obs) (ho : o.all noLO = true) : match readW W with
    | .inl k => Fc (n + 7) "read_wire" [.tup (bI W)] o = .ex "BadBits" (.int (k : Nat)) o
    | .inr p => ∀ f : Frm, f.Ok → p = plainB f → Fc (n + 7) "read_wire" [.tup (bI W)] o = .ok (frD f) o := by
  have e1 := read_plain_ok W hl n o ho
  have sp := rdL_spec (W := W) W [] stI rfl RdI.start
  rw [r_read_wire]
  unfold readW
  change (match rdL W stI 0 with
    | .inl k => _
    | .inr (t, i) => _) at sp
  cases hr : rdL W stI 0 with
  | inl k =>
    rw [hr] at e1
    simp [m_read_wire, e1]
  | inr q =>
    obtain ⟨t, i⟩ := q
    rw [hr] at e1 sp
    obtain ⟨g, hg, ha, hi, hS⟩ := sp
    have hle := hS.length_le
    have tl := tl_loop W (.tup (bI t.acc)) i (by omega) (n + 6) o 10 0 .un rfl (fun t ht => absurd ht (Nat.not_lt_zero t)) (by omega)
    rw [List.drop_zero] at tl
    simp only at e1 ⊢
    have hsm : smallI 10 = true := by decide
    cases ht : tlL W i 10 0 with
    | some j =>
      rw [ht] at tl
      obtain ⟨e, tl⟩ := tl
      simp [m_read_wire, e1, hsm, tl]
    | none =>
      rw [ht] at tl
      obtain ⟨e1', tl⟩ := tl
      by_cases hlt : i + 10 < W.length
      · have hlt' : (i : Int) + 10 < (W.length : Nat) := by omega
        have h6 : ((i : Int) + 10).natAbs < 1000000 := by omega
        simp only [if_pos hlt]
        simp [m_read_wire, e1, hsm, tl, hlt', h6]
      · have hlt' : ¬ (i : Int) + 10 < (W.length : Nat) := by omega
        simp only [if_neg hlt]
        intro f hf hp
        have e2 := frame_of_ok true f hf (n + 4) o
        change Fc (n + 4 + 2) "frame_of" [D.tup (bI (plainB f))] o = _ at e2
        rw [← hp] at e2
        simp [m_read_wire, e1, hsm, tl, hlt', e2]
end Mp

set_option Elab.async false
set_option linter.all false
set_option maxRecDepth 100000
namespace Mp
open PySem PySem.Spec PyProof.Rows L2
/-! ### the law's reading in the text -/
theorem numB_fold (r : List Bool) : ∀ x : Nat, r.foldl (fun x b => 2 * x + b.toNat) x = x * 2 ^ r.length + numB r := by
  induction r with
  | nil => intro x; simp [numB]
  | cons b r ih =>
    intro x
    show r.foldl _ (2 * x + b.toNat) = _
    have h2 : numB (b :: r) = b.toNat * 2 ^ r.length + numB r := by
      show r.foldl _ (2 * 0 + b.toNat) = _
      rw [ih]; simp
    rw [ih, h2, List.length_cons, Nat.pow_succ, Nat.add_mul, Nat.add_assoc]
    congr 1
    rw [Nat.mul_comm 2 x, Nat.mul_assoc, Nat.mul_comm 2]
theorem numB_cons (b : Bool) (r : List Bool) : numB (b :: r) = b.toNat * 2 ^ r.length + numB r := by
  show r.foldl _ (2 * 0 + b.toNat) = _
  rw [numB_fold]; simp
def wsum (bs : List Bool) : List Int := (List.range bs.length).map fun k => b2i (bs.getD k false) * 2 ^ (bs.length - 1 - k)
theorem wsum_num : ∀ bs : List Bool, (wsum bs).sum = (numB bs : Nat)
  | [] => rfl
  | b :: r => by
    unfold wsum
    rw [List.length_cons, List.range_succ_eq_map, List.map_cons, List.sum_cons, List.map_map]
    have e : (List.range r.length).map ((fun k => b2i ((b :: r).getD k false) * 2 ^ (r.length + 1 - 1 - k)) ∘ Nat.succ) = wsum r := by
      unfold wsum
      apply List.map_congr_left
      intro k hk
      have hk := List.mem_range.mp hk
      show b2i ((b :: r).getD (k + 1) false) * 2 ^ (r.length + 1 - 1 - (k + 1)) = _
      rw [show r.length + 1 - 1 - (k + 1) = r.length - 1 - k from by omega]
      rfl
    rw [e, wsum_num r, numB_cons]
    show b2i b * 2 ^ (r.length + 1 - 1 - 0) + _ = _
    rw [show r.length + 1 - 1 - 0 = r.length from by omega]
    cases b <;> simp [b2i]
theorem law_number_ok (bs : List Bool) (hl : bs.length < 8000) (n : Nat) (o : Obs) : Fc (n + 1) "_law_number" [.lst (bI bs)] o = .ok (.int (numB bs : Nat)) o := by
  rw [r__law_number]
  have := lcD_map (own := [1]) (tg := .nm 1) (t := denC (Fc n) Gl .none) (x := denE (Fc n) Gl (.bin .Mult (.ix (.var 0) (.var 1)) (.bin .LShift (.lit (.int 1)) (.bin .Sub (.bin .Sub (.bi "len" (.cons (.var 0) .nil)) (.lit (.int 1))) (.var 1)))))
    (env := [.v (.lst (bI bs)), .un]) (o := o) (p := fun _ => true) (f := fun d => match d with | .int i => .int (b2i (bs.getD i.toNat false) * 2 ^ (bs.length - 1 - i.toNat)) | _ => .non) (ds := rangeD 0 bs.length 1) (acc := []) (by simp [rangeD_len]; omega) (fun d hd => by
      obtain ⟨k, hk⟩ := List.getElem?_of_mem hd
      obtain ⟨hk2, rfl⟩ := rangeD_at hk
      rw [show (0 : Int) + (k : Nat) * 1 = (k : Nat) from by omega]
      refine ⟨_, rfl, by simp, fun _ => ?_⟩
      have hb : bs[k]? = some bs[k] := List.getElem?_eq_getElem hk2
      have a1 := bI_at hb
      obtain ⟨j, hj⟩ : ∃ j : Nat, j = bs.length - 1 - k := ⟨_, rfl⟩
      have hj2 : (bs.length : Int) - 1 - (k : Int) = (j : Nat) := by omega
      have s1 := shl_nat 1 j (by decide) (by omega)
      rw [Int.one_mul] at s1
      simp only [Int.toNat_natCast]
      rw [List.getD_eq_getElem?_getD, hb]
      simp only [Option.getD_some]
      rw [← hj]
      generalize (2 : Int) ^ j = q at *
      have m1 : mulOk (b2i bs[k]) q = true := mulOk_l (by cases bs[k] <;> decide)
      simp [a1, hj2, s1, m1])
  rw [filter_true, List.nil_append] at this
  have e : (rangeD 0 bs.length 1).map (fun d => match d with | .int i => D.int (b2i (bs.getD i.toNat false) * 2 ^ (bs.length - 1 - i.toNat)) | _ => .non) = (wsum bs).map .int := by
    unfold rangeD wsum
    rw [List.map_map, List.map_map]
    apply List.map_congr_left
    intro k _
    show D.int _ = D.int _
    rw [show ((0 : Int) + (k : Nat) * 1).toNat = k from by omega]
  rw [e] at this
  have hsm : smallI (bs.length : Int) = true := smallI_nat _ (by omega)
  have su : biD "sum" [.lst ((wsum bs).map .int)] = some (.int (numB bs : Nat)) := by
    show (intsD _).map _ = _
    rw [intsD_map, ← wsum_num]; rfl
  simp [m__law_number, hsm, this, su]
theorem law_part (p : List Bool) (a s : Nat) (h : a + s ≤ p.length) (hs : s < 8000) (n : Nat) (o : Obs) : Fc (n + 1) "_law_number" [.lst (bI ((p.drop a).take s))] o = .ok (.int (Nf (rho p) a s : Nat)) o := by
  rw [law_number_ok _ (by simp; omega), part_rho h, numB_Nf]
theorem rho_zeros (p : List Bool) (m i : Nat) : rho (p ++ List.replicate m false) i = rho p i := by
  unfold rho
  rw [List.getD_eq_getElem?_getD, List.getD_eq_getElem?_getD]
  by_cases h : i < p.length
  · rw [List.getElem?_append_left h]
  · rw [List.getElem?_append_right (by omega), List.getElem?_replicate, List.getElem?_eq_none (by omega : p.length ≤ i)]
    split <;> rfl
theorem mul_l200 : mulD (.lst [.int 0]) (.int 200) = some (.lst (bI (List.replicate 200 false))) := by
  show (if (decide (-(2 ^ 63) ≤ (200 : Int) ∧ (200 : Int) < 2 ^ 63) && decide ([D.int 0].length * (200 : Int).toNat ≤ sizeLine)) = true then some (D.lst (List.replicate (200 : Int).toNat [D.int 0]).flatten) else none) = _
  rw [if_pos (by decide)]
  rfl
theorem min8 (m : Nat) : (if (m : Int) < 8 then (m : Int) else 8) = ((min 8 m : Nat) : Int) := by
  by_cases h : m < 8
  · rw [if_pos (by omega)]; omega
  · rw [if_neg (by omega)]; omega
theorem law_filled_ok (X : D) (p : List Bool) (hX : biD "list" [X] = some (.lst (bI p))) (hX2 : biD "len" [X] = some (.int (p.length : Nat))) (hl : p.length < 100000) (n : Nat) (o : Obs) : Fc (n + 2) "_law_filled" [X] o = .ok (frD (fillR (rho p))) o := by
  rw [r__law_filled]
  obtain ⟨R, hR⟩ : ∃ R, R = p ++ List.replicate 200 false := ⟨_, rfl⟩
  have hRl : R.length = p.length + 200 := by rw [hR]; simp
  have hrho : rho R = rho p := by funext i; rw [hR, rho_zeros]
  have m2 := mul_l200
  have h1 : p.length + 200 ≤ 16777216 := by omega
  have z2 : (List.replicate 200 false).length = 200 := by simp
  have a0 : bI p ++ bI (List.replicate 200 false) = bI R := by rw [hR, bI_app]
  generalize List.replicate 200 false = zs at *
  have e13 : (decide ((13 : Int) < (p.length : Nat)) && rho p 13) = rho p 13 := by
    by_cases h : 13 < p.length
    · rw [decide_eq_true (by omega), Bool.true_and]
    · rw [rho_off (by omega), Bool.and_false]
  have x13 := q_ix false (p := R) (i := 13) (by omega)
  rw [hrho] at x13
  change ixD (D.lst (bI R)) _ = _ at x13
  have xa := q_ix false (p := R) (i := askN (rho p 13)) (by have := askN_lt (rho p 13); have : headN (rho p 13) ≤ 39 := by cases rho p 13 <;> decide
                                                            omega)
  rw [hrho] at xa
  change ixD (D.lst (bI R)) _ = _ at xa
  have hN := headN_le (rho p 13)
  have hN2 : headN (rho p 13) ≤ 39 := by cases rho p 13 <;> decide
  have e2 := law_part R 1 11 (by omega) (by decide) n o
  have c2 := q_sl false (cutI_mid R 1 12 (by omega))
  have e3 := law_part R 14 18 (by omega) (by decide) n o
  have c3 := q_sl false (cutI_mid R 14 32 (by omega))
  have e4 := law_part R (headN (rho p 13) - 4) 4 (by omega) (by decide) n o
  have c4 := cutI_mid R (headN (rho p 13) - 4) (headN (rho p 13)) (by omega)
  rw [show headN (rho p 13) - (headN (rho p 13) - 4) = 4 from by omega, show ((headN (rho p 13) - 4 : Nat) : Int) = (headN (rho p 13) : Nat) - 4 from by omega] at c4
  have c4 := q_sl false c4
  rw [hrho] at e2 e3 e4
  change slD (D.lst (bI R)) _ _ = some (D.lst _) at c2 c3 c4
  obtain ⟨fr, hfr⟩ : ∃ fr, fr = fillR (rho p) := ⟨_, rfl⟩
  have hnum : fr.num = if rho p 13 then Nf (rho p) 1 11 * 262144 + Nf (rho p) 14 18 else Nf (rho p) 1 11 := by rw [hfr]; rfl
  have hlng : fr.lng = rho p 13 := by rw [hfr]; rfl
  have hask : fr.ask = rho p (askN (rho p 13)) := by rw [hfr]; rfl
  have hdat : fr.data = if rho p (askN (rho p 13)) then [] else (List.range (min 8 (Nf (rho p) (headN (rho p 13) - 4) 4))).map fun k => Nf (rho p) (headN (rho p 13) + 8 * k) 8 := by rw [hfr]; rfl
  have mn := min8 (Nf (rho p) (headN (rho p 13) - 4) 4)
  obtain ⟨M, hM⟩ : ∃ M, M = min 8 (Nf (rho p) (headN (rho p 13) - 4) 4) := ⟨_, rfl⟩
  rw [← hM] at mn hdat
  have mn : biD "min" [.int 8, .int (Nf (rho p) (headN (rho p 13) - 4) 4 : Nat)] = some (.int (M : Nat)) := by
    show some (D.int (if ((Nf (rho p) (headN (rho p 13) - 4) 4 : Nat) : Int) < 8 then ((Nf (rho p) (headN (rho p 13) - 4) 4 : Nat) : Int) else 8)) = _
    rw [mn]
  have hM8 : M ≤ 8 := by omega
  have hsm : smallI (M : Int) = true := smallI_nat _ (by omega)
  have lc := fun (b5 : D) => lcD_map (own := [8]) (tg := .nm 8) (t := denC (Fc (n + 1)) Gl .none) (x := denE (Fc (n + 1)) Gl (.call "_law_number" (.cons (.sl (.var 1) (.some (.bin .Add (.var 3) (.bin .Mult (.lit (.int 8)) (.var 8)))) (.some (.bin .Add (.bin .Add (.var 3) (.bin .Mult (.lit (.int 8)) (.var 8))) (.lit (.int 8))))) .nil)))
    (env := [.v X, .v (.lst (bI R)), .v (.bl (rho p 13)), .v (.int (headN (rho p 13) : Nat)), .v (.bl false), .v b5, .v (.int (M : Nat)), .un, .un]) (o := o) (p := fun _ => true)
    (f := fun d => match d with | .int i => .int (Nf (rho p) (headN (rho p 13) + 8 * i.toNat) 8 : Nat) | _ => .non) (ds := rangeD 0 M 1) (acc := []) (by simp [rangeD_len]; omega) (fun d hd => by
      obtain ⟨k, hk⟩ := List.getElem?_of_mem hd
      obtain ⟨hk2, rfl⟩ := rangeD_at hk
      rw [show (0 : Int) + (k : Nat) * 1 = (k : Nat) from by omega]
      refine ⟨_, rfl, by simp, fun _ => ?_⟩
      simp only [Int.toNat_natCast]
      have e6 := law_part R (headN (rho p 13) + 8 * k) 8 (by omega) (by decide) n o
      rw [hrho] at e6
      have c6 := cutI_mid R (headN (rho p 13) + 8 * k) (headN (rho p 13) + 8 * k + 8) (by omega)
      rw [show headN (rho p 13) + 8 * k + 8 - (headN (rho p 13) + 8 * k) = 8 from by omega, show ((headN (rho p 13) + 8 * k + 8 : Nat) : Int) = (headN (rho p 13) : Int) + 8 * (k : Int) + 8 from by omega, show ((headN (rho p 13) + 8 * k : Nat) : Int) = (headN (rho p 13) : Int) + 8 * (k : Int) from by omega] at c6
      have m6 : mulOk 8 (k : Int) = true := mulOk_l (by decide)
      simp [m6, c6, e6])
  have hdata : rho p (askN (rho p 13)) = false → (rangeD 0 M 1).map (fun d => match d with | .int i => D.int (Nf (rho p) (headN (rho p 13) + 8 * i.toNat) 8 : Nat) | _ => .non) = dataD fr.data := fun ha => by
    rw [hdat, ha, if_neg (by simp)]
    unfold dataD rangeD
    rw [List.map_map, List.map_map]
    apply List.map_congr_left
    intro k _
    show D.int _ = D.int _
    rw [show ((0 : Int) + (k : Nat) * 1).toNat = k from by omega]
  rw [← hfr]
  unfold frD
  rw [hlng, hask]
  have hnil : rho p (askN (rho p 13)) = true → dataD fr.data = [] := fun ha => by rw [hdat, if_pos ha]; rfl
  simp only [filter_true, List.nil_append] at lc
  have a0' := a0
  clear hdat hfr hM hR
  have hshort : ¬ 13 < p.length → rho p 13 = false := fun h => rho_off (by omega)
  generalize hl : rho p 13 = l at *
  generalize hak : rho p (askN l) = ak at *
  have h13 : 13 < p.length ∨ (l = false ∧ ¬ (13 : Int) < (p.length : Nat)) := by
    by_cases h : 13 < p.length
    · exact .inl h
    · exact .inr ⟨hshort h, by omega⟩
  clear hshort e13 hl hlng hask
  cases l
  · simp only [Bool.false_eq_true, if_false] at hnum
    rw [hnum]
    simp [headN, askN] at xa x13 e2 c2 e4 c4 mn
    cases ak
    · have lc := lc (.int (Nf (rho p) 1 11 : Nat))
      rw [hdata rfl] at lc
      simp [headN] at lc
      rcases h13 with h | ⟨_, h⟩
      · have h' : (13 : Int) < (p.length : Nat) := by omega
        simp [m__law_filled, hX, hX2, m2, z2, h1, a0', h', x13, b2i, xa, c2, e2, c4, e4, mn, hsm, lc]
      · simp [m__law_filled, hX, hX2, m2, z2, h1, a0', h, b2i, xa, c2, e2, c4, e4, mn, hsm, lc]
    · rw [hnil rfl]
      rcases h13 with h | ⟨_, h⟩
      · have h' : (13 : Int) < (p.length : Nat) := by omega
        simp [m__law_filled, hX, hX2, m2, z2, h1, a0', h', x13, b2i, xa, c2, e2, c4, e4, mn]
      · simp [m__law_filled, hX, hX2, m2, z2, h1, a0', h, b2i, xa, c2, e2, c4, e4, mn]
  · rcases h13 with h | ⟨h, _⟩
    · have h' : (13 : Int) < (p.length : Nat) := by omega
      simp only [if_true] at hnum
      have m7 : mulOk ((Nf (rho p) 1 11 : Nat) : Int) 262144 = true := mulOk_r (by decide)
      have hnum' : ((Nf (rho p) 1 11 : Nat) : Int) * 262144 + ((Nf (rho p) 14 18 : Nat) : Int) = (fr.num : Nat) := by omega
      simp [headN, askN] at xa x13 e2 c2 e3 c3 e4 c4 mn
      cases ak
      · have lc := lc (.int (fr.num : Nat))
        rw [hdata rfl] at lc
        simp [headN] at lc
        simp [m__law_filled, hX, hX2, m2, z2, h1, a0', h', x13, b2i, xa, c2, e2, c3, e3, m7, hnum', c4, e4, mn, hsm, lc]
      · rw [hnil rfl]
        simp [m__law_filled, hX, hX2, m2, z2, h1, a0', h', x13, b2i, xa, c2, e2, c3, e3, m7, hnum', c4, e4, mn]
    · cases h
end Mp

set_option Elab.async false
set_option linter.all false
set_option maxRecDepth 100000
namespace Mp
open PySem PySem.Spec PyProof.Rows L2
/-! ### the law's beginnings in the text -/
theorem luF_snoc (W : List Bool) (b : Bool) : luF (W ++ [b]) stI = luS (luF W stI) b := by unfold luF; rw [List.foldl_append]; rfl
theorem luF_last (W : List Bool) : (luF W stI).last = if W.length = 0 then none else some (rho W (W.length - 1)) := by
  induction W using snoc_ind with
  | h0 => rfl
  | h1 l a ih =>
    rw [luF_snoc]
    have : (luS (luF l stI) a).last = some a := by unfold luS; split <;> rfl
    rw [this, if_neg (by simp)]
    congr 1
    rw [rho_snoc, if_pos (by simp)]
theorem luF_len (W : List Bool) : (luF W stI).acc.length ≤ W.length := by
  induction W using snoc_ind with
  | h0 => exact Nat.le_refl _
  | h1 l a ih =>
    rw [luF_snoc]; unfold luS
    split
    · show (luF l stI).acc.length ≤ _; simp; omega
    · show ((luF l stI).acc ++ [a]).length ≤ _; simp; omega
theorem law_unstuffed_ok (W : List Bool) (hl : W.length < 1000000) (n : Nat) (o : Obs) : Fc (n + 1) "_law_unstuffed" [.tup (bI W)] o = .ok (.lst (bI (luF W stI).acc)) o := by
  rw [r__law_unstuffed]
  have hsm : smallI (W.length : Int) = true := smallI_nat _ (by omega)
  simp [m__law_unstuffed, hsm]
  refine endR_seq (forD_wp (fun i env o' => o' = o ∧ ∃ s1, env = [.v (.tup (bI W)), s1, .ol (bI (luF (W.take i) stI).acc), .v (.int ((luF (W.take i) stI).run : Nat))]) (i := 0) ⟨rfl, .un, by simp [luF, stI, bI]⟩ ?_ ?_)
  · rintro i d env o' hi ⟨rfl, s1, rfl⟩
    obtain ⟨hj, rfl⟩ := rangeD_at hi
    rw [show (0 : Int) + (i : Nat) * 1 = (i : Nat) from by omega, Nat.zero_add]
    refine ⟨_, rfl, ?_⟩
    have hb : W[i]? = some W[i] := List.getElem?_eq_getElem hj
    have a1 := bI_at hb
    have e2 : luF (W.take (i + 1)) stI = luS (luF (W.take i) stI) W[i] := by rw [List.take_add_one, hb]; exact luF_snoc _ _
    rw [e2]
    have hla := luF_last (W.take i)
    have hle := luF_len (W.take i)
    rw [List.length_take, show min i W.length = i from by omega] at hla hle
    have hpr : 0 < i → rho (W.take i) (i - 1) = rho W (i - 1) := fun h => rho_pre (List.take_prefix _ _) (by simp; omega)
    generalize luF (W.take i) stI = t at *
    generalize hbb : W[i] = b at *
    obtain ⟨acc, last, run⟩ := t
    simp only at hla hle
    have hs2 : acc.length < 16777216 := by omega
    simp only [List.set_cons_succ, List.set_cons_zero]
    unfold luS
    simp only
    by_cases h5 : run = 5
    · rw [if_pos h5]
      simp [w__law_unstuffed_0, h5]
    · have h5' : ¬ (run : Int) = 5 := by omega
      rw [if_neg h5]
      by_cases h0 : i = 0
      · subst h0
        rw [if_pos rfl] at hla
        subst hla
        simp at a1
        have hr : rbB none run b = 1 := rfl
        rw [hr]
        simp [w__law_unstuffed_0, h5', a1, hs2, bI_app]
        rfl
      · rw [if_neg h0, hpr (by omega)] at hla
        subst hla
        have h0' : 0 < i := by omega
        have a2 := q_ix true (p := W) (i := i - 1) (by omega)
        change ixD (D.tup (bI W)) _ = _ at a2
        rw [show ((i - 1 : Nat) : Int) = (i : Int) - 1 from by omega] at a2
        generalize rho W (i - 1) = c at *
        unfold rbB
        by_cases hcb : c = b
        · subst hcb
          rw [if_pos rfl]
          simp [w__law_unstuffed_0, h5', h0', a1, a2, hs2, bI_app]
          rfl
        · have nb : ¬ b2i b = b2i c := by cases b <;> cases c <;> simp_all [b2i]
          rw [if_neg (by simpa using hcb)]
          simp [w__law_unstuffed_0, h5', h0', a1, a2, nb, hs2, bI_app]
          rfl
  · rintro env o' ⟨rfl, s1, rfl⟩
    rw [rangeD_len, Nat.zero_add, List.take_length]
    simp
theorem lawFr_get (W : List Bool) (hl : W.length < 90000) (n : Nat) (o : Obs) : Fc (n + 2) "_law_filled" [.lst (bI (luF W stI).acc)] o = .ok (frD (lawFr W)) o :=
  law_filled_ok (.lst (bI (luF W stI).acc)) _ rfl (by simp) (by have := luF_len W; omega) n o
open Classical in
theorem law_begins_ok (W : List Bool) (hl : W.length < 90000) (n : Nat) (o : Obs) (ho : o.all noLO = true) : Fc (n + 5) "_law_begins" [.tup (bI W)] o = .ok (.bl (decide (AG W (lawFr W)))) o := by
  rw [r__law_begins]
  have e1 := law_unstuffed_ok W (by omega) (n + 3) o
  have e2 := lawFr_get W hl (n + 2) o
  have hf := lawFr_ok W
  generalize lawFr W = f at *
  have e3 := law_wire_ok f hf n o ho
  have wl := wire_len f
  have wb := wireB_len hf
  have hsm : smallI (W.length : Int) = true := smallI_nat _ (by omega)
  by_cases hle : W.length ≤ (wireB f).length
  · have hle' : (W.length : Int) ≤ ((wireB f).length : Nat) := by omega
    have lc := lcD_map (own := [4]) (tg := .nm 4) (t := denC (Fc (n + 4)) Gl .none) (x := denE (Fc (n + 4)) Gl (.dis (.cons (.cmp .Eq (.var 4) (.var 3)) (.cons (.cmp .Eq (.ix (.var 0) (.var 4)) (.ix (.var 2) (.var 4))) .nil))))
      (env := [.v (.tup (bI W)), .v (frD f), .v (.tup (bI (wireB f))), .v (.int (((wireB f).length : Int) - 9)), .un]) (o := o) (p := fun _ => true)
      (f := fun d => match d with | .int i => .bl (decide (i.toNat = (stuffB (plainB f)).length + 1) || decide (rho W i.toNat = rho (wireB f) i.toNat)) | _ => .non) (ds := rangeD 0 W.length 1) (acc := []) (by simp [rangeD_len]; omega) (fun d hd => by
        obtain ⟨k, hk⟩ := List.getElem?_of_mem hd
        obtain ⟨hk2, rfl⟩ := rangeD_at hk
        rw [show (0 : Int) + (k : Nat) * 1 = (k : Nat) from by omega]
        refine ⟨_, rfl, by simp, fun _ => ?_⟩
        simp only [Int.toNat_natCast]
        have x1 := q_ix true (p := W) hk2
        have x2 := q_ix true (p := wireB f) (i := k) (by omega)
        change ixD (D.tup (bI W)) _ = _ at x1
        change ixD (D.tup (bI (wireB f))) _ = _ at x2
        by_cases ha : k = (stuffB (plainB f)).length + 1
        · have ha' : (k : Int) = ((wireB f).length : Nat) - 9 := by omega
          rw [decide_eq_true ha]
          simp [ha']
        · have ha' : ¬ (k : Int) = ((wireB f).length : Nat) - 9 := by omega
          rw [decide_eq_false ha]
          by_cases hq : rho W k = rho (wireB f) k
          · simp [ha', x1, x2, hq]
          · have hq' : ¬ b2i (rho W k) = b2i (rho (wireB f) k) := by
              intro z; apply hq
              cases h1 : rho W k <;> cases h2 : rho (wireB f) k <;> rw [h1, h2] at z <;> first | rfl | (simp [b2i] at z)
            simp [ha', x1, x2, hq, hq'])
    rw [filter_true, List.nil_append] at lc
    have e5 : (rangeD 0 W.length 1).map (fun d => match d with | .int i => D.bl (decide (i.toNat = (stuffB (plainB f)).length + 1) || decide (rho W i.toNat = rho (wireB f) i.toNat)) | _ => .non) = ((List.range W.length).map fun k => decide (k = (stuffB (plainB f)).length + 1) || decide (rho W k = rho (wireB f) k)).map D.bl := by
      unfold rangeD
      rw [List.map_map, List.map_map]
      apply List.map_congr_left
      intro k _
      show D.bl _ = D.bl _
      rw [show ((0 : Int) + (k : Nat) * 1).toNat = k from by omega]
    have e6 : ((List.range W.length).map fun k => decide (k = (stuffB (plainB f)).length + 1) || decide (rho W k = rho (wireB f) k)).all id = decide (AG W f) := by
      apply Bool.eq_iff_iff.mpr
      rw [List.all_eq_true, decide_eq_true_iff]
      constructor
      · intro h
        refine ⟨hle, fun k hk hk2 => ?_⟩
        have := h _ (List.mem_map.mpr ⟨k, List.mem_range.mpr hk, rfl⟩)
        simp only [id, Bool.or_eq_true, decide_eq_true_eq] at this
        rcases this with z | z
        · exact absurd z hk2
        · exact z
      · intro a x hx
        obtain ⟨k, hk, rfl⟩ := List.mem_map.mp hx
        simp only [id, Bool.or_eq_true, decide_eq_true_eq]
        by_cases hk2 : k = (stuffB (plainB f)).length + 1
        · exact .inl hk2
        · exact .inr (a.at_ k (List.mem_range.mp hk) hk2)
    rw [e5] at lc
    have al : biD "all" [.lst (((List.range W.length).map fun k => decide (k = (stuffB (plainB f)).length + 1) || decide (rho W k = rho (wireB f) k)).map D.bl)] = some (.bl (decide (AG W f))) := by
      rw [← e6]
      show (blsD _).map _ = _
      rw [blsD_map]; rfl
    simp only [List.map_map] at lc al
    simp [m__law_begins, e1, e2, e3, hle, hsm, lc, al]
  · have hle' : ¬ (W.length : Int) ≤ ((wireB f).length : Nat) := by omega
    have hn : ¬ AG W f := fun a => hle a.len
    simp [m__law_begins, e1, e2, e3, hle, hn]
/-- the search for the last good one -/
theorem good_loop (W : List Bool) (hl : W.length < 80000) (m : Nat) (hm : m ≤ W.length) (H : ∀ j, j ≤ W.length → (AG (W.take j) (lawFr (W.take j)) ↔ j ≤ m)) (n : Nat) (o : Obs) (ho : o.all noLO = true) (e1 : Sl) : ∀ (fuel g h : Nat) (e4 : Sl), g ≤ m → m ≤ h → h ≤ W.length → h - g < fuel →
    ∃ e4', whileD (denT (Fc (n + 6)) Gl (.cmp .Lt (.var 2) (.var 3))) (denSs (Fc (n + 6)) Gl lawM w__law_good_0) fuel [.v (.tup (bI W)), e1, .v (.int (g : Nat)), .v (.int (h : Nat)), e4] o = .nx [.v (.tup (bI W)), e1, .v (.int (m : Nat)), .v (.int (m : Nat)), e4'] o
  | 0, _, _, _, _, _, _, hf => absurd hf (Nat.not_lt_zero _)
  | fuel + 1, g, h, e4, h1, h2, h3, hf => by
    classical
    by_cases hlt : g < h
    · have hlt' : (g : Int) < (h : Nat) := by omega
      rw [whileD_step (k := true) (h := by simp [hlt])]
      obtain ⟨mid, hmid⟩ : ∃ mid : Nat, mid = (g + h + 1) / 2 := ⟨_, rfl⟩
      have hd : (((g : Int) + (h : Nat)) + 1).fdiv 2 = (mid : Nat) := by
        rw [Int.fdiv_eq_ediv_of_nonneg _ (by decide)]; omega
      have hg1 : g < mid := by omega
      have hg2 : mid ≤ h := by omega
      have c1 := cutI_to W mid
      have eb := law_begins_ok (W.take mid) (by simp; omega) (n + 1) o ho
      have hH := H mid (by omega)
      by_cases hq : mid ≤ m
      · rw [decide_eq_true (hH.mpr hq)] at eb
        obtain ⟨e4', ih⟩ := good_loop W hl m hm H n o ho e1 fuel mid h (.v (.int (mid : Nat))) hq h2 h3 (by omega)
        refine ⟨e4', ?_⟩
        have hb : denSs (Fc (n + 6)) Gl lawM w__law_good_0 [.v (.tup (bI W)), e1, .v (.int (g : Nat)), .v (.int (h : Nat)), e4] o = .nx [.v (.tup (bI W)), e1, .v (.int (mid : Nat)), .v (.int (h : Nat)), .v (.int (mid : Nat))] o := by
          simp [w__law_good_0, hd, c1, eb]
        rw [if_pos rfl, hb]
        exact ih
      · rw [decide_eq_false (fun z => hq (hH.mp z))] at eb
        obtain ⟨e4', ih⟩ := good_loop W hl m hm H n o ho e1 fuel g (mid - 1) (.v (.int (mid : Nat))) h1 (by omega) (by omega) (by omega)
        refine ⟨e4', ?_⟩
        rw [show ((mid - 1 : Nat) : Int) = (mid : Int) - 1 from by omega] at ih
        have hb : denSs (Fc (n + 6)) Gl lawM w__law_good_0 [.v (.tup (bI W)), e1, .v (.int (g : Nat)), .v (.int (h : Nat)), e4] o = .nx [.v (.tup (bI W)), e1, .v (.int (g : Nat)), .v (.int ((mid : Int) - 1)), .v (.int (mid : Nat))] o := by
          simp [w__law_good_0, hd, c1, eb]
        rw [if_pos rfl, hb]
        exact ih
    · have hgh : g = m ∧ h = m := by omega
      obtain ⟨rfl, rfl⟩ := hgh
      rw [whileD_step (k := false) (h := by simp)]
      exact ⟨e4, by rw [if_neg (by simp)]⟩
theorem law_good_ok (W : List Bool) (hl : W.length < 4000) (m : Nat) (hm : m ≤ W.length) (H : ∀ j, j ≤ W.length → (AG (W.take j) (lawFr (W.take j)) ↔ j ≤ m)) (n : Nat) (o : Obs) (ho : o.all noLO = true) :
    Fc (n + 7) "_law_good" [.tup (bI W)] o = .ok (.tup [.int (m : Nat), .bl (decide (m = W.length ∧ W.length = (wireB (lawFr (W.take m))).length))]) o := by
  rw [r__law_good]
  obtain ⟨e4, lp⟩ := good_loop W (by omega) m hm H n o ho .un lawM 0 W.length .un (Nat.zero_le _) hm (Nat.le_refl _) (by show W.length - 0 < 5000; omega)
  have c1 := cutI_to W m
  have e1 := law_unstuffed_ok (W.take m) (by simp; omega) (n + 5) o
  have e2 := lawFr_get (W.take m) (by simp; omega) (n + 4) o
  have hf := lawFr_ok (W.take m)
  generalize lawFr (W.take m) = f at *
  have e3 := law_wire_ok f hf (n + 2) o ho
  simp at lp
  by_cases h1 : m = W.length
  · subst h1
    rw [List.take_length] at c1 e1 e2
    by_cases h2 : W.length = (wireB f).length
    · rw [decide_eq_true ⟨rfl, h2⟩]
      have h2' : ((wireB f).length : Int) = (W.length : Nat) := by omega
      simp [m__law_good, lp, c1, e1, e2, e3, h2']
    · have h2' : ¬ (W.length : Int) = ((wireB f).length : Nat) := by omega
      rw [decide_eq_false (fun z => h2 z.2)]
      simp [m__law_good, lp, c1, e1, e2, e3, h2']
  · have h1' : ¬ (m : Int) = (W.length : Nat) := by omega
    rw [decide_eq_false (fun z => h1 z.1)]
    simp [m__law_good, lp, c1, e1, e2, e3, h1']
end Mp

set_option Elab.async false
set_option linter.all false
set_option maxRecDepth 100000
namespace Mp
open PySem PySem.Spec PyProof.Rows L2
/-! ### the bit due next, by the law -/
theorem due_fits {f : Frm} (hf : f.Ok) {p : List Bool} (h : p <+: plainB f) (hi : p ≠ plainB f) (b : Bool) : (p ++ [b] <+: plainB (fillR (rho (p ++ [b])))) ↔ (dueB p = none ∨ dueB p = some b) := by
  constructor
  · intro h2
    exact due_1 (fillR_ok _) h2
  · intro hd
    obtain ⟨g, hg, hp⟩ := due_2 hf h hi hd
    exact fill_begins hg hp
theorem law_due_ok {f : Frm} (hf : f.Ok) {p : List Bool} (h : p <+: plainB f) (hi : p ≠ plainB f) (n : Nat) (o : Obs) : Fc (n + 4) "_law_due" [.lst (bI p)] o = .ok (lastD (dueB p)) o := by
  rw [r__law_due]
  have pl := plainB_len hf
  have hpl := h.length_le
  have st : ∀ (b : Bool) (e2 e3 e4 : Sl) (fs : List D), fs.length < 2 → ∃ e3' e4', denSs (Fc (n + 3)) Gl lawM w__law_due_0 [.v (.lst (bI p)), .v (.lst fs), .v (.int (b2i b)), e3, e4] o = .nx [.v (.lst (bI p)), .v (.lst (fs ++ if (dueB p = none ∨ dueB p = some b) then [.int (b2i b)] else [])), .v (.int (b2i b)), e3', e4'] o := by
    intro b e2 e3 e4 fs hfs
    have hfit := due_fits hf h hi b
    have hx : [D.int (b2i b)] = bI [b] := rfl
    have ha : bI p ++ [D.int (b2i b)] = bI (p ++ [b]) := by rw [hx, ← bI_app]
    have hl1 : (bI p).length + 1 ≤ 16777216 := by rw [bI_len]; omega
    have e1 := law_filled_ok (.lst (bI (p ++ [b]))) (p ++ [b]) rfl (by simp) (by simp; omega) (n + 1) o
    have hfk := fillR_ok (rho (p ++ [b]))
    generalize fillR (rho (p ++ [b])) = g at *
    have e2 := law_plain_ok g hfk n o
    have pg := plainB_len hfk
    have c1 := cutI_to (plainB g) (p ++ [b]).length
    have c2 := cmp_bI ((plainB g).take (p ++ [b]).length) (p ++ [b]) (by rw [List.length_take]; omega) (by simp; omega)
    have hq : decide ((plainB g).take (p ++ [b]).length = p ++ [b]) = decide (dueB p = none ∨ dueB p = some b) := by
      apply decide_eq_decide.mpr
      rw [← hfit, List.prefix_iff_eq_take]
      exact eq_comm
    rw [hq] at c2
    have hl2 : p.length + 1 ≤ 16777216 := by omega
    have hl3 : fs.length + 1 ≤ 16777216 := by omega
    rw [show (p ++ [b]).length = p.length + 1 from by simp] at c1 c2
    rw [show ((p.length + 1 : Nat) : Int) = (p.length : Int) + 1 from by omega] at c1
    have hl4 : fs.length ≤ 16777216 := by omega
    by_cases hd : dueB p = none ∨ dueB p = some b
    · rw [decide_eq_true hd] at c2
      rw [if_pos hd]
      exact ⟨.v (.lst (bI (p ++ [b]))), .v (.lst (bI (plainB g))), by simp [w__law_due_0, ha, hl2, hl3, e1, e2, c1, c2]⟩
    · rw [decide_eq_false hd] at c2
      rw [if_neg hd]
      exact ⟨.v (.lst (bI (p ++ [b]))), .v (.lst (bI (plainB g))), by simp [w__law_due_0, ha, hl2, hl4, e1, e2, c1, c2]⟩
  obtain ⟨a3, a4, s1⟩ := st false .un .un .un [] (by simp)
  obtain ⟨c3, c4, s2⟩ := st true .un a3 a4 ([] ++ if (dueB p = none ∨ dueB p = some false) then [.int (b2i false)] else []) (by split <;> simp)
  have lp : forD (.nm 2) (denSs (Fc (n + 3)) Gl lawM w__law_due_0) [.int 0, .int 1] [.v (.lst (bI p)), .v (.lst []), .un, .un, .un] o = .nx [.v (.lst (bI p)), .v (.lst (([] ++ if (dueB p = none ∨ dueB p = some false) then [.int (b2i false)] else []) ++ if (dueB p = none ∨ dueB p = some true) then [.int (b2i true)] else [])), .v (.int (b2i true)), c3, c4] o := by
    rw [forD_cons, show setTg (Tg.nm 2) (D.int 0) [Sl.v (D.lst (bI p)), Sl.v (D.lst []), Sl.un, Sl.un, Sl.un] = some [Sl.v (D.lst (bI p)), Sl.v (D.lst []), Sl.v (D.int (b2i false)), Sl.un, Sl.un] from rfl]
    simp only [s1]
    rw [forD_cons, show ∀ q, setTg (Tg.nm 2) (D.int 1) [Sl.v (D.lst (bI p)), Sl.v (D.lst q), Sl.v (D.int (b2i false)), a3, a4] = some [Sl.v (D.lst (bI p)), Sl.v (D.lst q), Sl.v (D.int (b2i true)), a3, a4] from fun _ => rfl]
    simp only [s2]
    rfl
  cases hd : dueB p with
  | none => simp [m__law_due, lp, hd, lastD]
  | some b => cases b <;> simp [m__law_due, lp, hd, lastD]
end Mp

set_option Elab.async false
set_option linter.all false
set_option maxRecDepth 100000
namespace Mp
open PySem PySem.Spec PyProof.Rows L2
/-! ### what the law is told of bits, and whether that is right -/
theorem notin2 {x a b : D} (hx : okD x = true) (hf : flatD x = false) (hab : okD (.tup [a, b]) = true) : cmpD .NotIn x (.tup [a, b]) = some (!(eqvD a x || eqvD b x)) := by
  unfold okD at hx hab
  rw [Bool.and_eq_true, decide_eq_true_eq] at hx hab
  obtain ⟨u, e1, c1, d1⟩ := toP_plain hx.1
  obtain ⟨y, e2, c2, d2⟩ := toP_plain hab.1
  have s1 : SeqAt.shaped u = true := by
    unfold SeqAt.shaped
    rw [c1, d1]; simpa using hx.2
  have s2 : SeqAt.shaped y = true := by
    unfold SeqAt.shaped
    rw [c2, d2]; simpa using hab.2
  simp only [toP, Option.map_eq_some_iff] at e2
  obtain ⟨ys, e2, rfl⟩ := e2
  have e3 := e2
  simp only [toPs, Option.bind_eq_bind, Option.bind_eq_some_iff, Option.some.injEq] at e3
  obtain ⟨w, a1, us, ⟨w2, a2, us2, b2, rfl⟩, rfl⟩ := e3
  cases b2
  show (inD x (.tup [a, b])).map (!·) = _
  have hi : inD x (.tup [a, b]) = inDeep x [a, b] := by
    show (if (flatD x && [a, b].all flatD) = true then _ else _) = _
    rw [hf, Bool.false_and, if_neg (by decide)]
  rw [hi]
  unfold inDeep
  rw [e1, e2]
  show (if (SeqAt.shaped u && SeqAt.shaped (.tuple [w, w2])) = true then some ([w, w2].any fun z => PyData.eqv z u) else none).map _ = _
  rw [s1, s2, Bool.and_self, if_pos rfl]
  simp only [List.any_cons, List.any_nil, Bool.or_false, Option.map_some]
  rw [eqv_toP a1 e1, eqv_toP a2 e1]
theorem eqv_tI (a b : List Bool) : eqvD (.tup (bI a)) (.tup (bI b)) = decide (a = b) := by
  show eqvDs (bI a) (bI b) = _
  rw [bI_ints, bI_ints, eqvDs_ints]
  exact decide_eq_decide.mpr ⟨b2i_inj, fun h => by rw [h]⟩
def ansB (f : Frm) : List Bool := (wireB f).set ((stuffB (plainB f)).length + 1) false
theorem ansB_len (f : Frm) : (ansB f).length = (wireB f).length := by simp [ansB]
theorem ansB_at (f : Frm) (k : Nat) : rho (ansB f) k = if k = (stuffB (plainB f)).length + 1 then false else rho (wireB f) k := by
  unfold ansB rho
  have wl := wire_len f
  by_cases h : k = (stuffB (plainB f)).length + 1
  · rw [if_pos h, h]
    rw [List.getD_eq_getElem?_getD, List.getElem?_set_self (by omega)]; rfl
  · rw [if_neg h]
    simp [List.getD_eq_getElem?_getD, List.getElem?_set, Ne.symm h]
theorem ansB_AG (f : Frm) : AG (ansB f) f := ⟨by rw [ansB_len]; exact Nat.le_refl _, fun k _ h => by rw [ansB_at, if_neg h]⟩
theorem ext_rho {a b : List Bool} (hl : a.length = b.length) (h : ∀ k, k < a.length → rho a k = rho b k) : a = b := (pre_of (by omega) h).eq_of_length hl
theorem two_of {W : List Bool} {f : Frm} (a : AG W f) (hl : W.length = (wireB f).length) : wireB f = W ∨ ansB f = W := by
  by_cases h : rho W ((stuffB (plainB f)).length + 1) = true
  · refine .inl (ext_rho hl fun k hk => ?_).symm
    by_cases hk2 : k = (stuffB (plainB f)).length + 1
    · rw [hk2, h, wire_t f (by omega) (by rw [wire_len]; omega)]
    · exact a.at_ k hk hk2
  · refine .inr (ext_rho (by rw [ansB_len, hl]) fun k hk => ?_).symm
    rw [ansB_at]
    by_cases hk2 : k = (stuffB (plainB f)).length + 1
    · rw [if_pos hk2, hk2]; simpa using h
    · rw [if_neg hk2]; exact a.at_ k hk hk2
theorem cut_m9 (f : Frm) : cutD (bI (wireB f)) none (some (-9)) = bI ((wireB f).take ((stuffB (plainB f)).length + 1)) := by
  have wl := wire_len f
  unfold cutD
  have e : HT.sIx (bI (wireB f)).length (bI (wireB f)).length (some (-9)) = (stuffB (plainB f)).length + 1 := by
    show (if (-9 : Int) < 0 then ((-9 : Int) + ((bI (wireB f)).length : Int)).toNat else min (-9 : Int).toNat (bI (wireB f)).length) = _
    rw [if_pos (by decide), bI_len]; omega
  rw [e]
  show ((bI (wireB f)).drop 0).take ((stuffB (plainB f)).length + 1 - 0) = _
  rw [List.drop_zero, Nat.sub_zero]
  unfold bI
  rw [List.map_take]
theorem cut_m8 (f : Frm) : cutD (bI (wireB f)) (some (-8)) none = bI ((wireB f).drop ((stuffB (plainB f)).length + 2)) := by
  have wl := wire_len f
  unfold cutD
  have e : HT.sIx (bI (wireB f)).length 0 (some (-8)) = (stuffB (plainB f)).length + 2 := by
    show (if (-8 : Int) < 0 then ((-8 : Int) + ((bI (wireB f)).length : Int)).toNat else min (-8 : Int).toNat (bI (wireB f)).length) = _
    rw [if_pos (by decide), bI_len]; omega
  rw [e]
  show ((bI (wireB f)).drop ((stuffB (plainB f)).length + 2)).take ((bI (wireB f)).length - ((stuffB (plainB f)).length + 2)) = _
  rw [List.take_of_length_le (by simp)]
  unfold bI
  rw [List.map_drop]
theorem ans_parts (f : Frm) : bI ((wireB f).take ((stuffB (plainB f)).length + 1)) ++ D.int 0 :: bI ((wireB f).drop ((stuffB (plainB f)).length + 2)) = bI (ansB f) := by
  have wl := wire_len f
  unfold ansB
  rw [List.set_eq_take_append_cons_drop, if_pos (by omega)]
  simp [bI, b2i]
def told2D (W : List Bool) : D := match readW W with
  | .inl k => .tup [.non, .int (k : Nat)]
  | .inr _ => .tup [frD (lawFr W), .non]
theorem told2_ok (W : List Bool) (hl : W.length < 4000) (n : Nat) (o : Obs) (ho : o.all noLO = true) : Fc (n + 8) "_law_told" [.tup (bI W)] o = .ok (told2D W) o := by
  rw [r__law_told]
  have e := read_wire_ok W hl n o ho
  have g := good_of W
  unfold told2D
  cases hu : readW W with
  | inl k =>
    rw [hu] at e
    simp only at e
    simp [m__law_told, w__law_told_0, e]
  | inr p =>
    rw [hu] at e g
    obtain ⟨_, f, hf, hp, hl, _⟩ := g
    have e' := e f hf hp
    rw [hl]
    simp [m__law_told, w__law_told_0, e']
theorem some_turn (n : Nat) (s : Bx) (W : List Bool) (hl : W.length < 4000) (e0 e2 e3 e4 e5 e6 e7 e8 e9 e11 e12 e13 e14 e15 e16 e17 : Sl) (P : Pt)
    (hP : ∀ y13 y14 y15 y16, P.nx [e0, .v (.obj 1), e2, e3, e4, e5, e6, e7, e8, e9, .v (.tup (bI W)), e11, e12, y13, y14, y15, y16, e17] (bx s [])) :
    (denSs (Fc (n + 9)) Gl lawM w_law_0 [e0, .v (.obj 1), e2, e3, e4, e5, e6, e7, e8, e9, .v (.tup (bI W)), e11, e12, e13, e14, e15, e16, e17] (bx s [])).wp P := by
  have p2 := told2_ok W hl (n + 1) (bx s []) (noLO_bx s)
  have g := good_of W
  cases hu : readW W with
  | inl k =>
    rw [hu] at g
    obtain ⟨hk, H, hw⟩ := g
    have p1 := law_good_ok W hl k hk H (n + 2) (bx s []) (noLO_bx s)
    rw [decide_eq_false hw] at p1
    have p3 := same_ok (n + 9) (.int (k : Nat)) (bx s []) rfl (Nat.succ_pos _)
    rw [show told2D W = .tup [.non, .int (k : Nat)] from by unfold told2D; rw [hu]] at p2
    simp [w_law_0, p1, p2, p3]
    exact hP _ _ _ _
  | inr p =>
    rw [hu] at g
    obtain ⟨H, f, hf, hp, hlf, ha, hlen⟩ := g
    have p1 := law_good_ok W hl W.length (Nat.le_refl _) (fun j hj => ⟨fun _ => hj, fun _ => H j⟩) (n + 2) (bx s []) (noLO_bx s)
    rw [List.take_length, hlf, decide_eq_true ⟨rfl, hlen⟩] at p1
    have p3 := same_ok (n + 9) .non (bx s []) rfl (Nat.succ_pos _)
    rw [show told2D W = .tup [frD f, .non] from by unfold told2D; rw [hu, hlf]] at p2
    have p4 := law_wire_ok f hf (n + 5) (bx s []) (noLO_bx s)
    have ti : isiD "tuple" (frD f) = some true := rfl
    have wl := wireB_len hf
    have c1 := cut_m9 f
    have c2 := cut_m8 f
    have c3 := ans_parts f
    have hl1 : ((wireB f).take ((stuffB (plainB f)).length + 1)).length + 1 ≤ 16777216 := by rw [List.length_take]; omega
    have hl2 : ((wireB f).take ((stuffB (plainB f)).length + 1)).length + 1 + ((wireB f).drop ((stuffB (plainB f)).length + 2)).length ≤ 16777216 := by rw [List.length_take, List.length_drop]; omega
    have hin : cmpD .NotIn (.tup (bI W)) (.tup [.tup (bI (wireB f)), .tup (bI (ansB f))]) = some false := by
      have t1 := plain_tI W (by omega)
      have t2 := plain_tI (wireB f) (by omega)
      have t3 := plain_tI (ansB f) (by rw [ansB_len]; omega)
      have t4 := tupP (ds := [.tup (bI (wireB f)), .tup (bI (ansB f))]) (k := 1) (by
        intro e he
        simp only [List.mem_cons, List.not_mem_nil, or_false] at he
        rcases he with rfl | rfl
        · exact ⟨t2.1, by omega⟩
        · exact ⟨t3.1, by omega⟩) (by simp)
      rw [notin2 (by unfold okD; rw [t1.1, t1.2]; rfl) rfl (by unfold okD; rw [t4.1, Bool.true_and]; exact decide_eq_true (by omega)), eqv_tI, eqv_tI]
      rcases two_of ha hlen with z | z
      · rw [decide_eq_true z]; rfl
      · rw [decide_eq_true z, Bool.or_true]; rfl
    generalize (wireB f).take ((stuffB (plainB f)).length + 1) = A1 at *
    generalize (wireB f).drop ((stuffB (plainB f)).length + 2) = A2 at *
    simp [w_law_0, p1, p2, p3, p4, c1, c2, c3, hl1, hl2, hin, ti]
    exact hP _ _ _ _
end Mp

set_option Elab.async false
set_option linter.all false
set_option maxRecDepth 100000
namespace Mp
open PySem PySem.Spec PyProof.Rows L2
/-! ### sizes, and what lies behind a whole wire -/
theorem body_len2 (f : Frm) : (bodyB f).length = headN f.lng + 8 * f.data.length := by
  unfold bodyB headB turnB headN
  cases f.lng <;> simp [bytesB_len] <;> omega
theorem plain_len2 (f : Frm) : (plainB f).length = headN f.lng + 8 * f.data.length + 15 := by
  unfold plainB; rw [List.length_append, body_len2]; simp [rbits]
theorem lng_at {f : Frm} (hf : f.Ok) {p : List Bool} (h : p <+: plainB f) (h1 : 14 ≤ p.length) : rho p 13 = f.lng := by
  have e := congrArg Frm.lng (body_frame hf)
  have e2 : rho (bodyB f) 13 = f.lng := e
  have bl := body_len2 f
  have := headN_le f.lng
  rw [rho_pre h (by omega), ← e2, rho_pre (List.prefix_append _ _ : bodyB f <+: plainB f) (by omega)]
  rfl
theorem size_val {f : Frm} (hf : f.Ok) {p : List Bool} (h : p <+: plainB f) : sizeD p = if headN f.lng ≤ p.length then .int ((headN f.lng + 8 * f.data.length + 15 : Nat) : Int) else .non := by
  unfold sizeD sizeB
  have hn := headN_le f.lng
  by_cases h1 : 14 ≤ p.length
  · rw [lng_at hf h h1]
    by_cases h2 : headN f.lng ≤ p.length
    · rw [if_neg (by omega), if_pos h2, bodyN_of hf h h1 (by rw [lng_at hf h h1]; exact h2), body_len2]
    · rw [if_pos (by omega), if_neg h2]
  · rw [if_pos (by omega), if_neg (by omega)]
theorem due_hyp {f : Frm} (hf : f.Ok) {p : List Bool} (h : p <+: plainB f) (hl : p.length < (plainB f).length) : 14 ≤ p.length → headN (rho p 13) ≤ p.length → p.length < bodyN (rho p) + 15 := by
  intro h1 h2
  rw [bodyN_of hf h h1 h2, body_len2]
  rw [plain_len2] at hl
  exact hl
theorem plain_frD {f : Frm} (hf : f.Ok) : plainD (frD f) = true ∧ depD (frD f) ≤ 2 := by
  have hl := hf.len
  have h1 := tupP (ds := dataD f.data) (k := 0) (by
    intro e he
    obtain ⟨b, _, rfl⟩ := List.mem_map.mp he
    exact ⟨rfl, Nat.le_refl _⟩) (by simp; omega)
  refine tupP (k := 1) ?_ (by simp)
  intro e he
  simp only [List.mem_cons, List.not_mem_nil, or_false] at he
  rcases he with rfl | rfl | rfl | rfl
  · exact ⟨rfl, Nat.zero_le _⟩
  · exact ⟨rfl, Nat.zero_le _⟩
  · exact ⟨rfl, Nat.zero_le _⟩
  · exact h1
theorem more_than {f : Frm} (hf : f.Ok) {X Y : List Bool} (a : AG X f) (hl : X.length = (wireB f).length) (hY : Y ≠ []) : readW (X ++ Y) = .inl X.length := by
  have hw := wire_len f
  have hyl : 0 < Y.length := List.length_pos_iff.mpr hY
  have no : ∀ m g, X.length < m → m ≤ (X ++ Y).length → g.Ok → ¬ AG ((X ++ Y).take m) g := by
    intro m g h1 h2 hg b
    have hS : stuffB (plainB f) <+: (X ++ Y).take m := by
      have p1 := a.long (by omega)
      have p2 : X <+: (X ++ Y).take m := by
        have q := List.take_prefix_take_left (l := X ++ Y) (show X.length ≤ m by omega)
        rwa [List.take_left] at q
      exact p1.trans p2
    have e := tail_same hf hg b hS (.inl (by rw [List.length_take]; omega))
    have wg : (wireB g).length = (wireB f).length := by unfold wireB; rw [e]
    have := b.len
    rw [List.length_take] at this
    omega
  have sp := readW_spec (X ++ Y)
  cases hr : readW (X ++ Y) with
  | inr p =>
    rw [hr] at sp
    obtain ⟨g, hg, _, b, _⟩ := sp
    exact absurd (by rw [List.take_length]; exact b) (no (X ++ Y).length g (by simp; omega) (Nat.le_refl _) hg)
  | inl k =>
    rw [hr] at sp
    obtain ⟨h1, ⟨g, hg, h2⟩, h3, _⟩ := sp
    congr 1
    by_cases hk : k ≤ X.length
    · by_cases hk2 : k = X.length
      · exact hk2
      · exact absurd (show Bg ((X ++ Y).take (k + 1)) from ⟨f, hf, by rw [List.take_append_of_le_length (by omega)]; exact a.take _⟩) (h3 (by simp; omega))
    · exact absurd h2 (no k g (by omega) h1 hg)
theorem drawn0_ok (n : Nat) (e0 e2 e3 e4 e5 e6 e7 e8 e9 e10 e11 e12 e13 e14 e15 e16 e17 : Sl) (r : Obs) : ∀ (ds acc : List D) (s : Bx), (∀ d ∈ ds, ∃ i : Int, d = .int i) → ds.length + acc.length < 16777216 → (∀ d ∈ acc, ∃ i : Int, d = .int i ∧ 0 ≤ i ∧ i < 2) →
    ∃ es s', lcD [17] (.nm 17) (denC (Fc (n + 2)) Gl .none) (denE (Fc (n + 2)) Gl (.ife (.cmp .Gt (.var 17) (.lit (.int 0))) (.call "_law_draw" (.cons (.var 1) (.cons (.lit (.int 2)) .nil))) (.lit (.int 0)))) [e0, .v (.obj 1), e2, e3, e4, e5, e6, e7, e8, e9, e10, e11, e12, e13, e14, e15, e16, e17] ds acc (bx s r) = .ok es (bx s' r) ∧ es.length = acc.length + ds.length ∧ ∀ d ∈ es, ∃ i : Int, d = .int i ∧ 0 ≤ i ∧ i < 2
  | [], acc, s, _, _, ha => ⟨acc, s, rfl, by simp, ha⟩
  | d :: ds, acc, s, hd, hl, ha => by
    obtain ⟨v, s', e, p, q⟩ := draw_ok s r n (many := 2) (by decide) (by decide)
    obtain ⟨i, rfl⟩ := hd d List.mem_cons_self
    simp only [List.length_cons] at hl
    have hl' : acc.length < 16777216 := by omega
    by_cases h0 : 0 < i
    · obtain ⟨es, s2, e2, l2, a2⟩ := drawn0_ok n e0 e2 e3 e4 e5 e6 e7 e8 e9 e10 e11 e12 e13 e14 e15 e16 e17 r ds (acc ++ [.int v]) s' (fun d h => hd d (List.mem_cons_of_mem _ h)) (by simp; omega) (fun d hd => by
        rcases List.mem_append.mp hd with hd | hd
        · exact ha d hd
        · simp at hd; exact ⟨v, hd, p, q⟩)
      refine ⟨es, s2, ?_, by rw [l2]; simp; omega, a2⟩
      unfold lcD
      simp [h0, e, hl']
      exact e2
    · obtain ⟨es, s2, e2, l2, a2⟩ := drawn0_ok n e0 e2 e3 e4 e5 e6 e7 e8 e9 e10 e11 e12 e13 e14 e15 e16 e17 r ds (acc ++ [.int 0]) s (fun d h => hd d (List.mem_cons_of_mem _ h)) (by simp; omega) (fun d hd => by
        rcases List.mem_append.mp hd with hd | hd
        · exact ha d hd
        · simp at hd; exact ⟨0, hd, by decide, by decide⟩)
      refine ⟨es, s2, ?_, by rw [l2]; simp; omega, a2⟩
      unfold lcD
      simp [h0, hl']
      exact e2
end Mp

set_option Elab.async false
set_option linter.all false
set_option maxRecDepth 100000
namespace Mp
open PySem PySem.Spec PyProof.Rows L2
theorem plain_t {ds : List D} {k : Nat} (h : ∀ e ∈ ds, plainD e = true ∧ depD e ≤ k) (hl : ds.length < 16777216) (n : Nat) (o : Obs) (hn : k + 1 < n) : Fc n "_law_same" [.tup ds, .tup ds] o = .ok (.bl true) o := by
  have := tupP h hl
  exact same_ok n _ o this.1 (by omega)
theorem ixb {p : List Bool} {k : Nat} (h : k < p.length) : atI (bI p) (k : Nat) = some (.int (b2i (rho p k))) := by
  rw [bI_at (List.getElem?_eq_getElem h)]
  rw [rho_get (List.getElem?_eq_getElem h)]
theorem nb2i (b : Bool) : 1 - b2i b = b2i (!b) := by cases b <;> rfl
def w_rest : Ss := (.cons (.ife (.not (.call "_law_same" (.cons (.tup (.cons (.call "_law_told" (.cons (.bin .Add (.var 11) (.tup (.cons (.lit (.int 1)) .nil))) .nil)) (.cons (.call "_law_told" (.cons (.bin .Add (.var 4) (.var 11)) .nil)) .nil))) (.cons (.tup (.cons (.tup (.cons (.lit .non) (.cons (.bi "len" (.cons (.var 11) .nil)) .nil))) (.cons (.tup (.cons (.lit .non) (.cons (.bi "len" (.cons (.var 11) .nil)) .nil))) .nil))) .nil))))
  (.cons (.ret (.lit (.bl false))) .nil)
  .nil) .nil)
theorem turn_ok (n : Nat) (s : Bx) (P : Pt) (e0 e2 e3 e4 e5 e6 e7 e8 e9 e10 e11 e12 e13 e14 e15 e16 e17 : Sl)
    (hP : ∀ s' x3 x4 x5 x6 x7 x8 x9 x10 x11 x12 x13 x14 x15 x16 x17, P.nx [e0, .v (.obj 1), e2, x3, x4, x5, x6, x7, x8, x9, x10, x11, x12, x13, x14, x15, x16, x17] (bx s' [])) :
    (denSs (Fc (n + 9)) Gl lawM w_law_1 [e0, .v (.obj 1), e2, e3, e4, e5, e6, e7, e8, e9, e10, e11, e12, e13, e14, e15, e16, e17] (bx s [])).wp P := by
  obtain ⟨f, s1, f1, hf, _⟩ := law_frame_ok s (n + 6) 4 (by decide) (by decide)
  have f2 := law_wire_ok f hf (n + 5) (bx s1 []) (noLO_bx s1)
  have f3 := law_plain_ok f hf (n + 6) (bx s1 [])
  have f4 := is_frame_ok f hf (n + 7) (bx s1 [])
  have f5 := wire_bits_ok f hf (n + 3) (bx s1 [])
  have wl := wireB_len hf
  have wl2 := wire_len f
  have pl := plainB_len hf
  have pl2 := plain_len2 f
  have spl := le_stuffB_len (plainB f)
  have al := ansB_len f
  have hdn := headN_le f.lng
  have aw : AG (wireB f) f := ⟨Nat.le_refl _, fun _ _ _ => rfl⟩
  have r1 := readW_ok hf aw rfl
  have r2 := readW_ok hf (ansB_AG f) al
  have f6 := read_wire_ok (wireB f) (by omega) (n + 2) (bx s1 []) (noLO_bx s1)
  rw [r1] at f6
  have f6 := f6 f hf rfl
  have f7 := read_wire_ok (ansB f) (by omega) (n + 2) (bx s1 []) (noLO_bx s1)
  rw [r2] at f7
  have f7 := f7 f hf rfl
  have pfr := plain_frD hf
  have pw := plain_tI (wireB f) (by omega)
  have pp := plain_tI (plainB f) (by omega)
  have f8 := plain_t (ds := [D.tup (bI (wireB f)), frD f, frD f]) (k := 2) (by
    intro e he
    simp only [List.mem_cons, List.not_mem_nil, or_false] at he
    rcases he with rfl | rfl | rfl
    · exact ⟨pw.1, by omega⟩
    · exact pfr
    · exact pfr) (by simp) (n + 9) (bx s1 []) (by omega)
  have f9 := plain_bits_ok f hf (n + 4) (bx s1 [])
  have g1 := frame_of_ok false f hf (n + 7) (bx s1 [])
  have g2 := read_plain_ok (ansB f) (by omega) (n + 3) (bx s1 []) (noLO_bx s1)
  have hrp : ∃ t : StB, rdL (ansB f) stI 0 = .inr (t, (stuffB (plainB f)).length) ∧ t.acc = plainB f := by
    have sp := rdL_spec (W := ansB f) (ansB f) [] stI rfl RdI.start
    change (match rdL (ansB f) stI 0 with
      | .inl k => _
      | .inr (t, i) => _) at sp
    have r3 := r2
    unfold readW at r3
    cases hr : rdL (ansB f) stI 0 with
    | inl k => rw [hr] at r3; cases r3
    | inr q =>
      obtain ⟨t, i⟩ := q
      rw [hr] at sp
      obtain ⟨g, hg, h1, h2, h3⟩ := sp
      have h4 := (ansB_AG f).long (by omega)
      have hgf : plainB g = plainB f := by
        by_cases hle : (stuffB (plainB g)).length ≤ (stuffB (plainB f)).length
        · exact plain_uniq hg hf (stuff_prefix.mp (List.prefix_of_prefix_length_le h3 h4 hle))
        · exact (plain_uniq hf hg (stuff_prefix.mp (List.prefix_of_prefix_length_le h4 h3 (by omega)))).symm
      exact ⟨t, by rw [h2, hgf], by rw [h1, hgf]⟩
  obtain ⟨t, hrp, hta⟩ := hrp
  rw [hrp] at g2
  simp only [hta] at g2
  rw [show (((stuffB (plainB f)).length : Nat) : Int) = ((wireB f).length : Int) - 10 from by omega] at g2
  have g3 := plain_t (ds := [D.tup (bI (plainB f)), frD f, D.tup [D.tup (bI (plainB f)), .int (((wireB f).length : Int) - 10)]]) (k := 2) (by
    intro e he
    simp only [List.mem_cons, List.not_mem_nil, or_false] at he
    rcases he with rfl | rfl | rfl
    · exact ⟨pp.1, by omega⟩
    · exact pfr
    · refine tupP (k := 1) ?_ (by simp)
      intro e he
      simp only [List.mem_cons, List.not_mem_nil, or_false] at he
      rcases he with rfl | rfl
      · exact ⟨pp.1, by omega⟩
      · exact ⟨rfl, Nat.zero_le _⟩) (by simp) (n + 9) (bx s1 []) (by omega)
  obtain ⟨k, s2, d2, p2, q2⟩ := draw_ok s1 [] (n + 7) (many := ((plainB f).length : Int)) (by omega) (by omega)
  obtain ⟨k, rfl⟩ := Int.eq_ofNat_of_zero_le p2
  have hkl : k < (plainB f).length := by omega
  have htk : ((plainB f).take k).length = k := by rw [List.length_take]; omega
  have hpre : (plainB f).take k <+: plainB f := List.take_prefix _ _
  have c1 := cutI_to (plainB f) k
  have h1 := due_bit_ok ((plainB f).take k) (due_hyp hf hpre (by omega)) (n + 4) (bx s2 [])
  have h2 := plain_size_ok false ((plainB f).take k) (n + 7) (bx s2 [])
  rw [size_val hf hpre, htk] at h2
  have h3 := plain_size_ok false (plainB f) (n + 7) (bx s2 [])
  rw [size_val hf (List.prefix_refl _), if_pos (by omega)] at h3
  have h4 := law_due_ok hf hpre (fun z => by rw [z] at htk; omega) (n + 5) (bx s2 [])
  have ix1 : ixD (frD f) (.int 1) = some (.bl f.lng) := rfl
  have ix3 : ixD (frD f) (.int 3) = some (.tup (dataD f.data)) := rfl
  generalize dueB ((plainB f).take k) = du at *
  have h5 : ∀ (a b : D), okD a = true → okD b = true → depD a = 0 → depD b = 0 → Fc (n + 9) "_law_same" [.tup [lastD du, a, b], .tup [lastD du, a, b]] (bx s2 []) = .ok (.bl true) (bx s2 []) := by
    intro a b ha hb da db
    unfold okD at ha hb
    rw [Bool.and_eq_true] at ha hb
    refine plain_t (k := 0) ?_ (by simp) (n + 9) _ (by omega)
    intro e he
    simp only [List.mem_cons, List.not_mem_nil, or_false] at he
    rcases he with rfl | rfl | rfl
    · cases du <;> exact ⟨rfl, Nat.le_refl _⟩
    · exact ⟨ha.1, by omega⟩
    · exact ⟨hb.1, by omega⟩
  obtain ⟨kw, s3, d3, p3, q3⟩ := draw_ok s2 [] (n + 7) (many := ((wireB f).length : Int)) (by omega) (by omega)
  obtain ⟨kw, rfl⟩ := Int.eq_ofNat_of_zero_le p3
  obtain ⟨m, s4, d4, p4, q4⟩ := draw_ok s3 [] (n + 7) (many := 30) (by decide) (by decide)
  obtain ⟨m, rfl⟩ := Int.eq_ofNat_of_zero_le p4
  have hsm : smallI (m : Int) = true := by unfold smallI; exact decide_eq_true (by omega)
  obtain ⟨size, hsz⟩ : ∃ size : Int, size = ((headN f.lng + 8 * f.data.length + 15 : Nat) : Int) := ⟨_, rfl⟩
  rw [← hsz] at h2 h3
  obtain ⟨es, s5, d5, l5, k5⟩ := drawn0_ok (n + 7) e0 e2 (.v (frD f)) (.v (.tup (bI (ansB f)))) (.v (.int (kw : Nat))) (.v (.int size)) e7 e8 e9 e10 (.v (.tup (bI (wireB f)))) (.v (.lst (bI (plainB f)))) e13 e14 e15 e16 e17 [] (rangeD 0 m 1) [] s4 (by
    intro d hd
    obtain ⟨i, hi⟩ := List.getElem?_of_mem hd
    exact ⟨_, (rangeD_at hi).2⟩) (by simp [rangeD_len]; omega) (by simp)
  obtain ⟨db, rfl⟩ := toB k5
  simp [rangeD_len] at l5
  obtain ⟨m2, s6, d6, p6, q6⟩ := draw_ok s5 [] (n + 7) (many := 12) (by decide) (by decide)
  have c2 := cut_m9 f
  have c3 := cut_m8 f
  have c4 := ans_parts f
  obtain ⟨tl, htl⟩ : ∃ tl : Nat, (tl : Int) = ((wireB f).length : Int) - 1 - m2 := ⟨((wireB f).length - 1 - m2.toNat), by omega⟩
  have c5 := cutI_to (wireB f) kw
  have c6 := cutI_from (wireB f) (kw + 1)
  have c7 := cutI_to (ansB f) tl
  have c8 := cutI_from (ansB f) (tl + 1)
  have x1 := ixb (p := wireB f) (k := kw) (by omega)
  have x2 := ixb (p := ansB f) (k := tl) (by omega)
  rw [show ((kw + 1 : Nat) : Int) = (kw : Int) + 1 from by omega] at c6
  rw [show ((tl + 1 : Nat) : Int) = (tl : Int) + 1 from by omega] at c8
  have t1 := told2_ok (wireB f ++ [true]) (by simp; omega) (n + 1) (bx s6 []) (noLO_bx s6)
  rw [show told2D (wireB f ++ [true]) = .tup [.non, .int ((wireB f).length : Nat)] from by unfold told2D; rw [more_than hf aw rfl (by simp)]] at t1
  have t2 := told2_ok (ansB f ++ wireB f) (by simp; omega) (n + 1) (bx s6 []) (noLO_bx s6)
  rw [show told2D (ansB f ++ wireB f) = .tup [.non, .int ((wireB f).length : Nat)] from by unfold told2D; rw [more_than hf (ansB_AG f) al (by intro z; rw [z] at wl2; simp at wl2), al]] at t2
  have t3 := same_ok (n + 9) (.tup [.tup [.non, .int ((wireB f).length : Nat)], .tup [.non, .int ((wireB f).length : Nat)]]) (bx s6 []) rfl (by show 2 < n + 9; omega)
  have a1 : bI (wireB f) ++ [D.int 1] = bI (wireB f ++ [true]) := by rw [bI_app]; rfl
  have a2 : bI (ansB f) ++ bI (wireB f) = bI (ansB f ++ wireB f) := by rw [bI_app]
  have a3 : bI ((wireB f).take kw) ++ D.int (b2i (!rho (wireB f) kw)) :: bI ((wireB f).drop (kw + 1)) = bI ((wireB f).take kw ++ (!rho (wireB f) kw) :: (wireB f).drop (kw + 1)) := by simp [bI]
  have a4 : bI ((ansB f).take tl) ++ D.int (b2i (!rho (ansB f) tl)) :: bI ((ansB f).drop (tl + 1)) = bI ((ansB f).take tl ++ (!rho (ansB f) tl) :: (ansB f).drop (tl + 1)) := by simp [bI]
  have a5 : bI ((wireB f).take kw) ++ bI ((wireB f).drop (kw + 1)) = bI ((wireB f).take kw ++ (wireB f).drop (kw + 1)) := by rw [bI_app]
  have n1 := nb2i (rho (wireB f) kw)
  have n2 := nb2i (rho (ansB f) tl)
  have b1 : ((wireB f).take kw).length ≤ 246 := by rw [List.length_take]; omega
  have b2 : ((wireB f).drop (kw + 1)).length ≤ 246 := by rw [List.length_drop]; omega
  have b3 : ((ansB f).take tl).length ≤ 246 := by rw [List.length_take]; omega
  have b4 : ((ansB f).drop (tl + 1)).length ≤ 246 := by rw [List.length_drop]; omega
  have b5 : ((wireB f).take ((stuffB (plainB f)).length + 1)).length ≤ 246 := by rw [List.length_take]; omega
  have b6 : ((wireB f).drop ((stuffB (plainB f)).length + 2)).length ≤ 246 := by rw [List.length_drop]; omega
  generalize (wireB f).take kw = T1 at *
  generalize (wireB f).drop (kw + 1) = T2 at *
  generalize (ansB f).take tl = T3 at *
  generalize (ansB f).drop (tl + 1) = T4 at *
  generalize (wireB f).take ((stuffB (plainB f)).length + 1) = T5 at *
  generalize (wireB f).drop ((stuffB (plainB f)).length + 2) = T6 at *
  generalize (plainB f).take k = T7 at *
  have z1 : T1.length + 1 ≤ 16777216 := by omega
  have z2 : T1.length + 1 + T2.length ≤ 16777216 := by omega
  have z3 : T3.length + 1 ≤ 16777216 := by omega
  have z4 : T3.length + 1 + T4.length ≤ 16777216 := by omega
  have z5 : T5.length + 1 ≤ 16777216 := by omega
  have z6 : T5.length + 1 + T6.length ≤ 16777216 := by omega
  have z7 : T1.length + T2.length ≤ 16777216 := by omega
  have z8 : (wireB f).length + 1 ≤ 16777216 := by omega
  have z9 : (ansB f).length + (wireB f).length ≤ 16777216 := by omega
  generalize (!rho (wireB f) kw) = nb1 at *
  generalize (!rho (ansB f) tl) = nb2 at *
  obtain ⟨X2, hX2⟩ : ∃ X2, X2 = T1 ++ nb1 :: T2 := ⟨_, rfl⟩
  obtain ⟨X3, hX3⟩ : ∃ X3, X3 = T3 ++ nb2 :: T4 := ⟨_, rfl⟩
  obtain ⟨X4, hX4⟩ : ∃ X4, X4 = T1 ++ T2 := ⟨_, rfl⟩
  have y2 : X2.length < 4000 := by rw [hX2]; simp; omega
  have y3 : X3.length < 4000 := by rw [hX3]; simp; omega
  have y4 : X4.length < 4000 := by rw [hX4]; simp; omega
  rw [← hX2] at a3
  rw [← hX3] at a4
  rw [← hX4] at a5
  have hall : ∀ d ∈ [D.tup (bI T1), .tup (bI X2), .tup (bI X3), .tup (bI X4), .tup (bI db)], ∃ x : List Bool, d = .tup (bI x) ∧ x.length < 4000 := by
    intro d hd
    simp only [List.mem_cons, List.not_mem_nil, or_false] at hd
    rcases hd with h | h | h | h | h
    · exact ⟨_, h, by omega⟩
    · exact ⟨_, h, y2⟩
    · exact ⟨_, h, y3⟩
    · exact ⟨_, h, y4⟩
    · exact ⟨_, h, by omega⟩
  have h6 := h5 (if headN f.lng ≤ k then .int size else .non) (.int size) (by split <;> rfl) rfl (by split <;> rfl) rfl
  rw [show ∀ x, qD false x = .lst (bI x) from fun _ => rfl] at g1 h2 h3
  have hmul : mulOk 8 (f.data.length : Int) = true := mulOk_l (by decide)
  have htl' := htl.symm
  have fin : ((forD (.nm 10) (denSs (Fc (n + 9)) Gl lawM w_law_0) [D.tup (bI T1), .tup (bI X2), .tup (bI X3), .tup (bI X4), .tup (bI db)] [e0, .v (.obj 1), e2, .v (frD f), .v (.tup (bI (ansB f))), .v (.int (kw : Nat)), .v (.int size), .v (.tup (bI db)), .v (.int (tl : Nat)), .v (.lst [D.tup (bI T1), .tup (bI X2), .tup (bI X3), .tup (bI X4), .tup (bI db)]), e10, .v (.tup (bI (wireB f))), .v (.lst (bI (plainB f))), e13, e14, e15, e16, e17] (bx s6 [])).seq (denSs (Fc (n + 9)) Gl lawM w_rest)).wp P := by
    generalize [D.tup (bI T1), .tup (bI X2), .tup (bI X3), .tup (bI X4), .tup (bI db)] = items at hall
    refine RS.wp_seq (forD_wp (fun i env o => o = bx s6 [] ∧ ∃ x10 x13 x14 x15 x16, env = [e0, .v (.obj 1), e2, .v (frD f), .v (.tup (bI (ansB f))), .v (.int (kw : Nat)), .v (.int size), .v (.tup (bI db)), .v (.int (tl : Nat)), .v (.lst items), x10, .v (.tup (bI (wireB f))), .v (.lst (bI (plainB f))), x13, x14, x15, x16, e17]) (i := 0) ⟨rfl, _, _, _, _, _, rfl⟩ ?_ ?_)
    · rintro i d env o hi ⟨rfl, x10, x13, x14, x15, x16, rfl⟩
      obtain ⟨x, rfl, hx⟩ := hall d (List.mem_of_getElem? hi)
      refine ⟨_, rfl, ?_⟩
      exact some_turn n s6 x hx e0 e2 _ _ _ _ _ _ _ _ _ x13 x14 x15 x16 e17 _ fun y13 y14 y15 y16 => ⟨rfl, _, _, _, _, _, rfl⟩
    · rintro env o ⟨rfl, x10, x13, x14, x15, x16, rfl⟩
      simp [w_rest, z8, z9, a1, a2, t1, t2, t3]
      exact hP _ _ _ _ _ _ _ _ _ _ _ _ _ _ _ _
  cases hl : f.lng
  · by_cases hk : headN f.lng ≤ k
    · rw [if_pos hk] at h2 h6
      have hk' : (19 : Int) ≤ (k : Nat) := by rw [hl] at hk; show ((19 : Nat) : Int) ≤ _; exact Int.ofNat_le.mpr hk
      have hz : 19 + 8 * (f.data.length : Int) + 15 = size := by rw [hsz, hl]; show _ = (((19 + 8 * f.data.length + 15 : Nat)) : Int); omega
      rw [hl] at ix1
      simp [w_law_1, f1, f2, f3, c2, c3, c4, z5, z6, f4, f5, f6, f7, f8, f9, g1, g2, g3, d2, c1, h1, h2, h3, h4, h6, ix1, ix3, hk', hmul, hz, d3, d4, hsm, d5, d6, c5, c6, c7, c8, htl', x1, x2, a1, a2, a3, a4, a5, n1, n2, z1, z2, z3, z4, z7, z8, z9, t1, t2, t3]
      exact fin
    · rw [if_neg hk] at h2 h6
      have hk' : ¬ (19 : Int) ≤ (k : Nat) := by rw [hl] at hk; intro z; exact hk (Int.ofNat_le.mp z)
      have hz : 19 + 8 * (f.data.length : Int) + 15 = size := by rw [hsz, hl]; show _ = (((19 + 8 * f.data.length + 15 : Nat)) : Int); omega
      rw [hl] at ix1
      simp [w_law_1, f1, f2, f3, c2, c3, c4, z5, z6, f4, f5, f6, f7, f8, f9, g1, g2, g3, d2, c1, h1, h2, h3, h4, h6, ix1, ix3, hk', hmul, hz, d3, d4, hsm, d5, d6, c5, c6, c7, c8, htl', x1, x2, a1, a2, a3, a4, a5, n1, n2, z1, z2, z3, z4, z7, z8, z9, t1, t2, t3]
      exact fin
  · by_cases hk : headN f.lng ≤ k
    · rw [if_pos hk] at h2 h6
      have hk' : (39 : Int) ≤ (k : Nat) := by rw [hl] at hk; show ((39 : Nat) : Int) ≤ _; exact Int.ofNat_le.mpr hk
      have hz : 39 + 8 * (f.data.length : Int) + 15 = size := by rw [hsz, hl]; show _ = (((39 + 8 * f.data.length + 15 : Nat)) : Int); omega
      rw [hl] at ix1
      simp [w_law_1, f1, f2, f3, c2, c3, c4, z5, z6, f4, f5, f6, f7, f8, f9, g1, g2, g3, d2, c1, h1, h2, h3, h4, h6, ix1, ix3, hk', hmul, hz, d3, d4, hsm, d5, d6, c5, c6, c7, c8, htl', x1, x2, a1, a2, a3, a4, a5, n1, n2, z1, z2, z3, z4, z7, z8, z9, t1, t2, t3]
      exact fin
    · rw [if_neg hk] at h2 h6
      have hk' : ¬ (39 : Int) ≤ (k : Nat) := by rw [hl] at hk; intro z; exact hk (Int.ofNat_le.mp z)
      have hz : 39 + 8 * (f.data.length : Int) + 15 = size := by rw [hsz, hl]; show _ = (((39 + 8 * f.data.length + 15 : Nat)) : Int); omega
      rw [hl] at ix1
      simp [w_law_1, f1, f2, f3, c2, c3, c4, z5, z6, f4, f5, f6, f7, f8, f9, g1, g2, g3, d2, c1, h1, h2, h3, h4, h6, ix1, ix3, hk', hmul, hz, d3, d4, hsm, d5, d6, c5, c6, c7, c8, htl', x1, x2, a1, a2, a3, a4, a5, n1, n2, z1, z2, z3, z4, z7, z8, z9, t1, t2, t3]
      exact fin
theorem law_ok (n : Nat) (ns : List Int) : (denSs (Fc (n + 9)) Gl lawM m_law [.v (.loc ns), .un, .un, .un, .un, .un, .un, .un, .un, .un, .un, .un, .un, .un, .un, .un, .un, .un] []).wp { nx := fun _ _ => False, rt := fun d _ => d = .bl true } := by
  obtain ⟨s, e1⟩ := box_ok ns (n + 8)
  have hsm : smallI 3 = true := by decide
  have t1 := fun s => told2_ok [true] (by simp) (n + 1) (bx s []) (noLO_bx s)
  rw [show told2D [true] = .tup [.non, .int (0 : Nat)] from by unfold told2D; rw [show readW [true] = .inl 0 from by decide +kernel]] at t1
  have t2 := fun s => told2_ok [] (by simp) (n + 1) (bx s []) (noLO_bx s)
  rw [show told2D [] = .tup [.non, .int (0 : Nat)] from by unfold told2D; rw [show readW [] = .inl 0 from by decide +kernel]] at t2
  rw [show bI [true] = [D.int 1] from rfl] at t1
  rw [show bI [] = [] from rfl] at t2
  unfold m_law
  simp [e1, hsm]
  refine RS.wp_seq (forD_wp (fun i env o => ∃ s' x2 x3 x4 x5 x6 x7 x8 x9 x10 x11 x12 x13 x14 x15 x16 x17, env = [.v (.loc ns), .v (.obj 1), x2, x3, x4, x5, x6, x7, x8, x9, x10, x11, x12, x13, x14, x15, x16, x17] ∧ o = bx s' []) (i := 0) ⟨s, .un, .un, .un, .un, .un, .un, .un, .un, .un, .un, .un, .un, .un, .un, .un, .un, rfl, rfl⟩ ?_ ?_)
  · rintro i d env o hi ⟨s', x2, x3, x4, x5, x6, x7, x8, x9, x10, x11, x12, x13, x14, x15, x16, x17, rfl, rfl⟩
    refine ⟨_, rfl, ?_⟩
    exact turn_ok n s' _ (.v (.loc ns)) (.v d) x3 x4 x5 x6 x7 x8 x9 x10 x11 x12 x13 x14 x15 x16 x17 fun s'' y3 y4 y5 y6 y7 y8 y9 y10 y11 y12 y13 y14 y15 y16 y17 => ⟨s'', _, _, _, _, _, _, _, _, _, _, _, _, _, _, _, _, rfl, rfl⟩
  · rintro env o ⟨s', x2, x3, x4, x5, x6, x7, x8, x9, x10, x11, x12, x13, x14, x15, x16, x17, rfl, rfl⟩
    simp [t1, t2]
theorem law_holds : ∀ ns : List Int, ns.length ≤ 63 → ∃ o, runFn e_law (Q.call lawM lawN) (fun x => Q.gl.lookup x) lawM [.loc ns] [] = .ok (.bl true) o := by
  intro ns _
  have h := R.wp_eq (endR_wp (P := fun d _ => d = .bl true) (RS.wp_imp (law_ok 21 ns) (fun _ _ h => h.elim) (fun _ _ h => h) (fun _ _ h => h) (fun _ _ h => h)))
  obtain ⟨a, o, e, rfl⟩ := h
  refine ⟨o, ?_⟩
  rw [show Q.call lawM lawN = Fc (21 + 9) from (Fc_eq 30).symm]
  exact (runFn_eq (f := e_law) (Φ := Fc (21 + 9)) (G := Gl) (N := lawM) (ds := [.loc ns]) (o := []) rfl).trans e
end Mp

open PySem PySem.W PyProof.Rows
set_option maxRecDepth 100000 in
set_option maxHeartbeats 0 in
theorem PySem.Challenge.cw_wireagreed_k20_whole_frames_on_the_wire_holds : PySem.Challenge.rw_wireagreed_k20_whole_frames_on_the_wire.Holds := by
  w_on; o_law; k_head; (case hw => w_witness2)
  k_fill
  refine Mp.law_walk (l := PySem.Challenge.rw_wireagreed_k20_whole_frames_on_the_wire) (st := Mp.top 66) (e := Mp.e_law) (fs := Mp.fs) (bs := Mp.bs) (cs := Mp.cs) (Q := Mp.Q) (n := Mp.lawN) (M := Mp.lawM) rfl rfl rfl ⟨by decide, by decide, by decide⟩ (fun w h Y => PySem.W.kIn_of Y) (by decide +kernel) rfl (by decide +kernel) Mp.d_law Mp.law_holds ?F
  case F =>
    intro w mg h KX G
    refine' Mp.ready_mk KX G (Mp.known ?mpd0a ?mpd0l ?mpd0c ?mpd0k) (Mp.known ?mpd1a ?mpd1l ?mpd1c ?mpd1k) (Mp.known ?mpd2a ?mpd2l ?mpd2c ?mpd2k) (Mp.known ?mpd3a ?mpd3l ?mpd3c ?mpd3k) (Mp.known ?mpd4a ?mpd4l ?mpd4c ?mpd4k) (Mp.known ?mpd5a ?mpd5l ?mpd5c ?mpd5k) (Mp.known ?mpd6a ?mpd6l ?mpd6c ?mpd6k) (Mp.known ?mpd7a ?mpd7l ?mpd7c ?mpd7k) (Mp.known ?mpd8a ?mpd8l ?mpd8c ?mpd8k) (Mp.known ?mpd9a ?mpd9l ?mpd9c ?mpd9k) (Mp.known ?mpd10a ?mpd10l ?mpd10c ?mpd10k) (Mp.known ?mpd11a ?mpd11l ?mpd11c ?mpd11k) (Mp.known ?mpd12a ?mpd12l ?mpd12c ?mpd12k) (Mp.known ?mpd13a ?mpd13l ?mpd13c ?mpd13k) (Mp.known ?mpd14a ?mpd14l ?mpd14c ?mpd14k) (Mp.known ?mpd15a ?mpd15l ?mpd15c ?mpd15k) (Mp.known ?mpd16a ?mpd16l ?mpd16c ?mpd16k) (Mp.known ?mpd17a ?mpd17l ?mpd17c ?mpd17k) (Mp.known ?mpd18a ?mpd18l ?mpd18c ?mpd18k) (Mp.known ?mpd19a ?mpd19l ?mpd19c ?mpd19k) (Mp.known ?mpd20a ?mpd20l ?mpd20c ?mpd20k) (Mp.known ?mpd21a ?mpd21l ?mpd21c ?mpd21k) (Mp.known ?mpd22a ?mpd22l ?mpd22c ?mpd22k) (Mp.known ?mpd23a ?mpd23l ?mpd23c ?mpd23k) (Mp.known ?mpd24a ?mpd24l ?mpd24c ?mpd24k) (Mp.known ?mpd25a ?mpd25l ?mpd25c ?mpd25k) (Mp.known ?mpd26a ?mpd26l ?mpd26c ?mpd26k) (Mp.known ?mpd27a ?mpd27l ?mpd27c ?mpd27k) (Mp.known ?mpd28a ?mpd28l ?mpd28c ?mpd28k) (Mp.known ?mpd29a ?mpd29l ?mpd29c ?mpd29k) (Mp.known ?mpd30a ?mpd30l ?mpd30c ?mpd30k) (Mp.known ?mpd31a ?mpd31l ?mpd31c ?mpd31k) (Mp.known ?mpd32a ?mpd32l ?mpd32c ?mpd32k) (Mp.known ?mpd33a ?mpd33l ?mpd33c ?mpd33k) (Mp.known ?mpd34a ?mpd34l ?mpd34c ?mpd34k) (Mp.known ?mpd35a ?mpd35l ?mpd35c ?mpd35k) (Mp.known ?mpd36a ?mpd36l ?mpd36c ?mpd36k) (Mp.known ?mpd37a ?mpd37l ?mpd37c ?mpd37k) (Mp.known ?mpd38a ?mpd38l ?mpd38c ?mpd38k) (Mp.known ?mpd39a ?mpd39l ?mpd39c ?mpd39k) (Mp.known ?mpd40a ?mpd40l ?mpd40c ?mpd40k) (Mp.known ?mpd41a ?mpd41l ?mpd41c ?mpd41k) (Mp.known ?mpd42a ?mpd42l ?mpd42c ?mpd42k) (Mp.gc ?mpg0a ?mpg0v) (Mp.gc ?mpg1a ?mpg1v) (Mp.gc ?mpg2a ?mpg2v) (Mp.gc ?mpg3a ?mpg3v) (Mp.gc ?mpg4a ?mpg4v) (Mp.gc ?mpg5a ?mpg5v) (Mp.gc ?mpg6a ?mpg6v) (Mp.gc ?mpg7a ?mpg7v) (Mp.gc ?mpg8a ?mpg8v) (Mp.gc ?mpg9a ?mpg9v) (Mp.gc ?mpg10a ?mpg10v) (Mp.gc ?mpg11a ?mpg11v) (Mp.gc ?mpg12a ?mpg12v) (Mp.gc ?mpg13a ?mpg13v) (Mp.gc ?mpg14a ?mpg14v) (Mp.gc ?mpg15a ?mpg15v) ?mpb0 ?mpb1 ?mpb2 ?mpb3 ?mpb4 ?mpb5 ?mpb6 ?mpb7 ?mpb8 ?mpb9 ?mpb10 ?mpb11 (Mp.clk Mp.t_BadBits ?mpc0a ?mpc0xL ?mpc0rv ?mpc0sa ?mpc0eb ?mpc0ty ?mpc0kp ?mpc0ini ?mpc0tf ?mpc0lf ?mpc0cf ?mpc0lc ?mpc0v2 ?mpc0fl ?mpc0ce ?mpc0mr ?mpc0su ?mpc0ve ?mpc0s1 ?mpc0s2 ?mpc0tp ?mpc0pl ?mpc0ga ?mpc0gg ?mpc0hd ?mpc0ex ?mpc0top)
    (case mpd0a => k_is); (case mpd0l => k_is); (case mpd0c => k_is); (case mpd0k => k_is)
    (case mpd1a => k_is); (case mpd1l => k_is); (case mpd1c => k_is); (case mpd1k => k_is)
    (case mpd2a => k_is); (case mpd2l => k_is); (case mpd2c => k_is); (case mpd2k => k_is)
    (case mpd3a => k_is); (case mpd3l => k_is); (case mpd3c => k_is); (case mpd3k => k_is)
    (case mpd4a => k_is); (case mpd4l => k_is); (case mpd4c => k_is); (case mpd4k => k_is)
    (case mpd5a => k_is); (case mpd5l => k_is); (case mpd5c => k_is); (case mpd5k => k_is)
    (case mpd6a => k_is); (case mpd6l => k_is); (case mpd6c => k_is); (case mpd6k => k_is)
    (case mpd7a => k_is); (case mpd7l => k_is); (case mpd7c => k_is); (case mpd7k => k_is)
    (case mpd8a => k_is); (case mpd8l => k_is); (case mpd8c => k_is); (case mpd8k => k_is)
    (case mpd9a => k_is); (case mpd9l => k_is); (case mpd9c => k_is); (case mpd9k => k_is)
    (case mpd10a => k_is); (case mpd10l => k_is); (case mpd10c => k_is); (case mpd10k => k_is)
    (case mpd11a => k_is); (case mpd11l => k_is); (case mpd11c => k_is); (case mpd11k => k_is)
    (case mpd12a => k_is); (case mpd12l => k_is); (case mpd12c => k_is); (case mpd12k => k_is)
    (case mpd13a => k_is); (case mpd13l => k_is); (case mpd13c => k_is); (case mpd13k => k_is)
    (case mpd14a => k_is); (case mpd14l => k_is); (case mpd14c => k_is); (case mpd14k => k_is)
    (case mpd15a => k_is); (case mpd15l => k_is); (case mpd15c => k_is); (case mpd15k => k_is)
    (case mpd16a => k_is); (case mpd16l => k_is); (case mpd16c => k_is); (case mpd16k => k_is)
    (case mpd17a => k_is); (case mpd17l => k_is); (case mpd17c => k_is); (case mpd17k => k_is)
    (case mpd18a => k_is); (case mpd18l => k_is); (case mpd18c => k_is); (case mpd18k => k_is)
    (case mpd19a => k_is); (case mpd19l => k_is); (case mpd19c => k_is); (case mpd19k => k_is)
    (case mpd20a => k_is); (case mpd20l => k_is); (case mpd20c => k_is); (case mpd20k => k_is)
    (case mpd21a => k_is); (case mpd21l => k_is); (case mpd21c => k_is); (case mpd21k => k_is)
    (case mpd22a => k_is); (case mpd22l => k_is); (case mpd22c => k_is); (case mpd22k => k_is)
    (case mpd23a => k_is); (case mpd23l => k_is); (case mpd23c => k_is); (case mpd23k => k_is)
    (case mpd24a => k_is); (case mpd24l => k_is); (case mpd24c => k_is); (case mpd24k => k_is)
    (case mpd25a => k_is); (case mpd25l => k_is); (case mpd25c => k_is); (case mpd25k => k_is)
    (case mpd26a => k_is); (case mpd26l => k_is); (case mpd26c => k_is); (case mpd26k => k_is)
    (case mpd27a => k_is); (case mpd27l => k_is); (case mpd27c => k_is); (case mpd27k => k_is)
    (case mpd28a => k_is); (case mpd28l => k_is); (case mpd28c => k_is); (case mpd28k => k_is)
    (case mpd29a => k_is); (case mpd29l => k_is); (case mpd29c => k_is); (case mpd29k => k_is)
    (case mpd30a => k_is); (case mpd30l => k_is); (case mpd30c => k_is); (case mpd30k => k_is)
    (case mpd31a => k_is); (case mpd31l => k_is); (case mpd31c => k_is); (case mpd31k => k_is)
    (case mpd32a => k_is); (case mpd32l => k_is); (case mpd32c => k_is); (case mpd32k => k_is)
    (case mpd33a => k_is); (case mpd33l => k_is); (case mpd33c => k_is); (case mpd33k => k_is)
    (case mpd34a => k_is); (case mpd34l => k_is); (case mpd34c => k_is); (case mpd34k => k_is)
    (case mpd35a => k_is); (case mpd35l => k_is); (case mpd35c => k_is); (case mpd35k => k_is)
    (case mpd36a => k_is); (case mpd36l => k_is); (case mpd36c => k_is); (case mpd36k => k_is)
    (case mpd37a => k_is); (case mpd37l => k_is); (case mpd37c => k_is); (case mpd37k => k_is)
    (case mpd38a => k_is); (case mpd38l => k_is); (case mpd38c => k_is); (case mpd38k => k_is)
    (case mpd39a => k_is); (case mpd39l => k_is); (case mpd39c => k_is); (case mpd39k => k_is)
    (case mpd40a => k_is); (case mpd40l => k_is); (case mpd40c => k_is); (case mpd40k => k_is)
    (case mpd41a => k_is); (case mpd41l => k_is); (case mpd41c => k_is); (case mpd41k => k_is)
    (case mpd42a => k_is); (case mpd42l => k_is); (case mpd42c => k_is); (case mpd42k => k_is)
    (case mpg0a => k_is); (case mpg0v => exact Mp.GV.int _ _)
    (case mpg1a => k_is); (case mpg1v => exact Mp.GV.int _ _)
    (case mpg2a => k_is); (case mpg2v => exact Mp.GV.int _ _)
    (case mpg3a => k_is); (case mpg3v => exact Mp.GV.int _ _)
    (case mpg4a => k_is); (case mpg4v => exact Mp.GV.int _ _)
    (case mpg5a => k_is); (case mpg5v => exact Mp.GV.int _ _)
    (case mpg6a => k_is); (case mpg6v => exact Mp.GV.int _ _)
    (case mpg7a => k_is); (case mpg7v => exact Mp.GV.int _ _)
    (case mpg8a => k_is); (case mpg8v => exact Mp.GV.int _ _)
    (case mpg9a => k_is); (case mpg9v => exact Mp.GV.int _ _)
    (case mpg10a => k_is); (case mpg10v => exact Mp.GV.int _ _)
    (case mpg11a => k_is); (case mpg11v => exact Mp.GV.int _ _)
    (case mpg12a => k_is); (case mpg12v => exact Mp.GV.int _ _)
    (case mpg13a => k_is); (case mpg13v => exact Mp.GV.int _ _)
    (case mpg14a => k_is); (case mpg14v => exact Mp.GV.int _ _)
    (case mpg15a => k_is); (case mpg15v => exact Mp.GV.int _ _)
    (case mpb0 => k_is)
    (case mpb1 => k_is)
    (case mpb2 => k_is)
    (case mpb3 => k_is)
    (case mpb4 => k_is)
    (case mpb5 => k_is)
    (case mpb6 => k_is)
    (case mpb7 => k_is)
    (case mpb8 => k_is)
    (case mpb9 => k_is)
    (case mpb10 => k_is)
    (case mpb11 => k_is)
    (case mpc0a => k_is); (case mpc0xL => k_is); (case mpc0rv => first | rfl | decide +kernel); (case mpc0sa => k_is); (case mpc0eb => k_is); (case mpc0ty => k_is); (case mpc0kp => k_is); (case mpc0ini => k_is); (case mpc0tf => k_is); (case mpc0lf => k_is); (case mpc0cf => k_is); (case mpc0lc => k_is); (case mpc0v2 => first | rfl | decide +kernel); (case mpc0fl => first | rfl | decide +kernel); (case mpc0ce => k_is); (case mpc0mr => k_is); (case mpc0su => kernel_rfl); (case mpc0ve => k_is); (case mpc0s1 => k_is); (case mpc0s2 => k_is); (case mpc0tp => k_is); (case mpc0pl => k_is); (case mpc0ga => k_is); (case mpc0gg => k_is); (case mpc0hd => k_is); (case mpc0ex => kernel_rfl); (case mpc0top => first | rfl | decide +kernel)
#print axioms PySem.Challenge.cw_wireagreed_k20_whole_frames_on_the_wire_holds
