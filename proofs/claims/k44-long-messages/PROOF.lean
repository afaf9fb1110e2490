import PyProof.Rows.All
import Wide.All
import OpenK.AllK
import Wide.FinOn
import HandS.ForExc
import HandS.ForMost
import HandS.TupAny
import HandS.TupMul
import HandS.Style
import HandS.IsInst
import HandS.WordsDict
import HandS.Codes
import HandS.Wide
import HandS.SetFor
import HandS.SortInts
import HandS.Strs
import HandS.WordsExc
import HandS.ExcInit
import HandS.ExcField
import HandS.ExcCtx
import HandS.TryOnly
import KE.KExcSuper
import KE.GoesMore
import PyProof.Draws
import PyProof.EnumMake
import HandS.More
import PySem.Challenge.RW_wireagreed_k44_whole_long_messages
set_option Elab.async false
set_option linter.all false
set_option maxRecDepth 100000
/-! A small language over plain data trees, and how it lies over the hand layer: worlds, data, states. -/
namespace Mp
open PySem PySem.Spec PyProof.Rows L2

/-- plain data: what cannot change any more -/
inductive D where
  | non | bl (b : Bool) | int (i : Int) | str (x : Str) | ty (n : String)
  | tup (ds : List D) | lst (ds : List D) | dic (ks : List (Key × D)) | obj (n : Nat) | loc (ns : List Int)

/-- a slot of a def: not set, data, a list of the def's own that it changes in place -/
inductive Sl where
  | un | v (d : D) | ol (ds : List D) | od (ks : List (Key × D))
/-- an object: an instance (its class, its fields), a list that many hold, a dict that many hold -/
inductive Ob where
  | ins (c : Str) (fs : List (Str × D)) | ls (ds : List D) | dk (ks : List (Key × D))
abbrev Env := List Sl
abbrev Obs := List Ob

inductive R (α : Type) where
  | ok (a : α) (o : Obs) | ex (c : Str) (a : D) (o : Obs) | bad
inductive RS where
  | nx (e : Env) (o : Obs) | rt (d : D) (o : Obs) | bk (e : Env) (o : Obs) | ct (e : Env) (o : Obs) | ex (c : Str) (a : D) (e : Env) (o : Obs) | bad

def R.bind {α β : Type} (x : R α) (f : α → Obs → R β) : R β := match x with
  | .ok a o => f a o
  | .ex c a o => .ex c a o
  | .bad => .bad
/-- what raises is not followed -/
def R.noex {α : Type} : R α → R α
  | .ex _ _ _ => .bad
  | x => x
@[simp] theorem R.noex_ok {α : Type} (a : α) (o : Obs) : (R.ok a o).noex = .ok a o := (rfl)
@[simp] theorem R.noex_bad {α : Type} : (R.bad : R α).noex = .bad := (rfl)
@[simp] theorem R.noex_ex {α : Type} (c : Str) (a : D) (o : Obs) : (R.ex c a o : R α).noex = .bad := (rfl)
def R.opt {α : Type} (o : Obs) : Option α → R α
  | some a => .ok a o
  | none => .bad
def R.map {α β : Type} (f : α → β) (x : R α) : R β := x.bind fun a o => .ok (f a) o
@[simp] theorem R.bind_ok {α β : Type} (a : α) (o : Obs) (f : α → Obs → R β) : (R.ok a o).bind f = f a o := (rfl)
@[simp] theorem R.bind_bad {α β : Type} (f : α → Obs → R β) : (R.bad : R α).bind f = .bad := (rfl)
@[simp] theorem R.bind_ex {α β : Type} (c : Str) (a : D) (o : Obs) (f : α → Obs → R β) : (R.ex c a o : R α).bind f = .ex c a o := (rfl)
@[simp] theorem R.opt_some {α : Type} (a : α) (o : Obs) : R.opt o (some a) = .ok a o := (rfl)
@[simp] theorem R.opt_none {α : Type} (o : Obs) : (R.opt o none : R α) = .bad := (rfl)
@[simp] theorem R.map_ok {α β : Type} (a : α) (o : Obs) (f : α → β) : (R.ok a o).map f = .ok (f a) o := (rfl)
@[simp] theorem R.map_bad {α β : Type} (f : α → β) : (R.bad : R α).map f = .bad := (rfl)
@[simp] theorem R.map_ex {α β : Type} (c : Str) (a : D) (o : Obs) (f : α → β) : (R.ex c a o : R α).map f = .ex c a o := (rfl)


/-! ### worlds -/
/-- what an address is for: data that stands, a list of the slot i, a list being made, a part of an object, what callers hold -/
inductive Role where
  | fro (o : HO) | own (i : Nat) | acc | ob (n : Nat) | dx (n : Nat) | keep (o : HO)
def Role.loose : Role → Bool
  | .own _ => true | .acc => true | _ => false
def Role.solid : Role → Bool
  | .own _ => false | .acc => false | .keep _ => false | _ => true
theorem Role.solid_loose {r : Role} (h : r.solid = true) : r.loose = false := by cases r <;> first | rfl | (simp [Role.solid] at h)
structure Wd where
  ρ : Addr → Option Role
  A : List Addr
def Wd.F (W : Wd) : Hp := fun p => match W.ρ p with | some (.fro o) => some o | _ => none
def Wd.put (W : Wd) (p : Addr) (r : Role) : Wd := { W with ρ := fun q => if q = p then some r else W.ρ q }
theorem Wd.put_same {W : Wd} {p : Addr} {r : Role} : (W.put p r).ρ p = some r := by simp [Wd.put]
theorem Wd.put_ne {W : Wd} {p q : Addr} {r : Role} (h : q ≠ p) : (W.put p r).ρ q = W.ρ q := by simp [Wd.put, h]
theorem Wd.F_of {W : Wd} {p : Addr} {o : HO} : W.F p = some o ↔ W.ρ p = some (.fro o) := by
  unfold Wd.F
  cases h : W.ρ p with
  | none => simp
  | some r => cases r <;> simp

/-- data that stands keeps standing, objects keep their addresses -/
structure Wd.dle (W W' : Wd) : Prop where
  f : ∀ p o, W.ρ p = some (.fro o) → W'.ρ p = some (.fro o)
  a : ∀ (n : Nat) p, W.A[n]? = some p → W'.A[n]? = some p
theorem Wd.dle.refl {W : Wd} : W.dle W := ⟨fun _ _ h => h, fun _ _ h => h⟩
theorem Wd.dle.trans {W W1 W2 : Wd} (a : W.dle W1) (b : W1.dle W2) : W.dle W2 := ⟨fun p o h => b.f p o (a.f p o h), fun n p h => b.a n p (a.a n p h)⟩

section
variable (K : PySem.W.Frag)
mutual
inductive Rep (F : Hp) (A : List Addr) : V → D → Prop
  | non : Rep F A .non .non
  | bl (b : Bool) : Rep F A (.bl b) (.bl b)
  | int (i : Int) : Rep F A (.int i) (.int i)
  | str (x : Str) : Rep F A (.str x) (.str x)
  | ty (n : String) : Rep F A (.ty n) (.ty n)
  | tup {p : Addr} {vs : List V} {ds : List D} : SqT K F p vs → Reps F A vs ds → Rep F A (.ref p) (.tup ds)
  | lst {p : Addr} {vs : List V} {ds : List D} : F p = some (.lst vs) → Reps F A vs ds → Rep F A (.ref p) (.lst ds)
  | loc {p : Addr} {ns : List Int} : SqL K F p (ns.map V.int) → Rep F A (.ref p) (.loc ns)
  | dic {p : Addr} {vs : List (Key × V)} {ds : List (Key × D)} : F p = some (.dK vs) → vs.map (·.1) = ds.map (·.1) → Reps F A (vs.map (·.2)) (ds.map (·.2)) → Rep F A (.ref p) (.dic ds)
  | obj {p : Addr} {n : Nat} : A[n]? = some p → Rep F A (.ref p) (.obj n)
inductive Reps (F : Hp) (A : List Addr) : List V → List D → Prop
  | nil : Reps F A [] []
  | cons {v : V} {vs : List V} {d : D} {ds : List D} : Rep F A v d → Reps F A vs ds → Reps F A (v :: vs) (d :: ds)
end
end

theorem SqL.mono {K : PySem.W.Frag} {F F' : Hp} {p : Addr} {vs : List V} (h : SqL K F p vs) (m : ∀ p o, F p = some o → F' p = some o) : SqL K F' p vs := by
  rcases h with (h | ⟨o, h⟩) | h
  · exact .inl (.inl (m _ _ h))
  · exact .inl (.inr ⟨o, m _ _ h⟩)
  · exact .inr h
theorem SqT.mono {K : PySem.W.Frag} {F F' : Hp} {p : Addr} {vs : List V} (h : SqT K F p vs) (m : ∀ p o, F p = some o → F' p = some o) : SqT K F' p vs := by
  rcases h with (h | ⟨o, h⟩) | h
  · exact .inl (.inl (m _ _ h))
  · exact .inl (.inr ⟨o, m _ _ h⟩)
  · exact .inr h

section
variable {K : PySem.W.Frag}
mutual
theorem Rep.mono {F F' : Hp} {A A' : List Addr} (m : ∀ p o, F p = some o → F' p = some o) (a : ∀ (n : Nat) p, A[n]? = some p → A'[n]? = some p) : ∀ {v : V} {d : D}, Rep K F A v d → Rep K F' A' v d
  | _, _, .non => .non
  | _, _, .bl b => .bl b
  | _, _, .int i => .int i
  | _, _, .str x => .str x
  | _, _, .ty n => .ty n
  | _, _, .tup h r => .tup (SqT.mono h m) (Reps.mono m a r)
  | _, _, .lst h r => .lst (m _ _ h) (Reps.mono m a r)
  | _, _, .loc h => .loc (SqL.mono h m)
  | _, _, .dic h e r => .dic (m _ _ h) e (Reps.mono m a r)
  | _, _, .obj h => .obj (a _ _ h)
theorem Reps.mono {F F' : Hp} {A A' : List Addr} (m : ∀ p o, F p = some o → F' p = some o) (a : ∀ (n : Nat) p, A[n]? = some p → A'[n]? = some p) : ∀ {vs : List V} {ds : List D}, Reps K F A vs ds → Reps K F' A' vs ds
  | _, _, .nil => .nil
  | _, _, .cons h r => .cons (Rep.mono m a h) (Reps.mono m a r)
end
end

abbrev Wd.rep (K : PySem.W.Frag) (W : Wd) (v : V) (d : D) : Prop := Rep K W.F W.A v d
abbrev Wd.reps (K : PySem.W.Frag) (W : Wd) (vs : List V) (ds : List D) : Prop := Reps K W.F W.A vs ds
section
variable {K : PySem.W.Frag} {W W' : Wd}
theorem Wd.dle.F (l : W.dle W') : ∀ p o, W.F p = some o → W'.F p = some o := fun p o h => Wd.F_of.mpr (l.f p o (Wd.F_of.mp h))
theorem Wd.dle.rep (l : W.dle W') {v : V} {d : D} (h : W.rep K v d) : W'.rep K v d := Rep.mono l.F l.a h
theorem Wd.dle.reps (l : W.dle W') {vs : List V} {ds : List D} (h : W.reps K vs ds) : W'.reps K vs ds := Reps.mono l.F l.a h
end
section
variable {K : PySem.W.Frag} {F : Hp} {A : List Addr}
theorem Reps.length : ∀ {vs : List V} {ds : List D}, Reps K F A vs ds → vs.length = ds.length
  | _, _, .nil => rfl
  | _, _, .cons _ r => by simp [Reps.length r]
theorem Reps.get : ∀ {vs : List V} {ds : List D} {i : Nat} {d : D}, Reps K F A vs ds → ds[i]? = some d → ∃ v, vs[i]? = some v ∧ Rep K F A v d
  | _, _, _, _, .nil, e => by simp at e
  | _, _, 0, _, .cons h _, e => by simp at e; subst e; exact ⟨_, rfl, h⟩
  | _, _, i + 1, _, .cons _ r, e => by
    obtain ⟨v, h1, h2⟩ := Reps.get (i := i) r (by simpa using e)
    exact ⟨v, by simpa using h1, h2⟩
theorem Reps.get' : ∀ {vs : List V} {ds : List D} {i : Nat} {v : V}, Reps K F A vs ds → vs[i]? = some v → ∃ d, ds[i]? = some d ∧ Rep K F A v d
  | _, _, _, _, .nil, e => by simp at e
  | _, _, 0, _, .cons h _, e => by simp at e; subst e; exact ⟨_, rfl, h⟩
  | _, _, i + 1, _, .cons _ r, e => by
    obtain ⟨v, h1, h2⟩ := Reps.get' (i := i) r (by simpa using e)
    exact ⟨v, by simpa using h1, h2⟩
theorem Reps.append : ∀ {vs us : List V} {ds es : List D}, Reps K F A vs ds → Reps K F A us es → Reps K F A (vs ++ us) (ds ++ es)
  | _, _, _, _, .nil, s => s
  | _, _, _, _, .cons h r, s => .cons h (Reps.append r s)
theorem Reps.take : ∀ {vs : List V} {ds : List D} (n : Nat), Reps K F A vs ds → Reps K F A (vs.take n) (ds.take n)
  | _, _, 0, _ => .nil
  | _, _, _ + 1, .nil => .nil
  | _, _, n + 1, .cons h r => .cons h (Reps.take n r)
theorem Reps.drop : ∀ {vs : List V} {ds : List D} (n : Nat), Reps K F A vs ds → Reps K F A (vs.drop n) (ds.drop n)
  | _, _, 0, r => r
  | _, _, _ + 1, .nil => .nil
  | _, _, n + 1, .cons _ r => Reps.drop n r
theorem Reps.reverse {vs : List V} {ds : List D} (h : Reps K F A vs ds) : Reps K F A vs.reverse ds.reverse := by
  induction h using Reps.rec (motive_1 := fun _ _ _ => True) with
  | nil => exact .nil
  | cons h r _ ih => rw [List.reverse_cons, List.reverse_cons]; exact ih.append (.cons h .nil)
  | _ => trivial
theorem Reps.set : ∀ {vs : List V} {ds : List D} {v : V} {d : D} (i : Nat), Rep K F A v d → Reps K F A vs ds → Reps K F A (vs.set i v) (ds.set i d)
  | _, _, _, _, _, _, .nil => .nil
  | _, _, _, _, 0, q, .cons _ r => .cons q r
  | _, _, _, _, i + 1, q, .cons h r => .cons h (Reps.set i q r)
theorem Reps.eraseIdx : ∀ {vs : List V} {ds : List D} (i : Nat), Reps K F A vs ds → Reps K F A (vs.eraseIdx i) (ds.eraseIdx i)
  | _, _, _, .nil => .nil
  | _, _, 0, .cons _ r => r
  | _, _, i + 1, .cons h r => .cons h (Reps.eraseIdx i r)
theorem Reps.one {v : V} {d : D} (h : Rep K F A v d) : Reps K F A [v] [d] := .cons h .nil
theorem Reps.ints : ∀ (ns : List Int), Reps K F A (ns.map V.int) (ns.map D.int)
  | [] => .nil
  | n :: ns => .cons (.int n) (Reps.ints ns)
theorem Reps.strs : ∀ (ns : List Str), Reps K F A (ns.map V.str) (ns.map D.str)
  | [] => .nil
  | n :: ns => .cons (.str n) (Reps.strs ns)
theorem Reps.to_ints : ∀ {ns : List Int} {vs : List V}, Reps K F A vs (ns.map D.int) → vs = ns.map V.int
  | [], _, .nil => rfl
  | _ :: ns, _, .cons h r => by cases h; rw [Reps.to_ints r, List.map_cons]
theorem Reps.to_bls : ∀ {ns : List Bool} {vs : List V}, Reps K F A vs (ns.map D.bl) → vs = ns.map V.bl
  | [], _, .nil => rfl
  | _ :: ns, _, .cons h r => by cases h; rw [Reps.to_bls r, List.map_cons]
theorem Reps.to_strs : ∀ {ns : List Str} {vs : List V}, Reps K F A vs (ns.map D.str) → vs = ns.map V.str
  | [], _, .nil => rfl
  | _ :: ns, _, .cons h r => by cases h; rw [Reps.to_strs r, List.map_cons]
theorem Rep.to_int {v : V} {i : Int} (h : Rep K F A v (.int i)) : v = .int i := by cases h; rfl
theorem Rep.to_str {v : V} {x : Str} (h : Rep K F A v (.str x)) : v = .str x := by cases h; rfl
theorem Rep.to_bl {v : V} {x : Bool} (h : Rep K F A v (.bl x)) : v = .bl x := by cases h; rfl
theorem Rep.to_non {v : V} (h : Rep K F A v .non) : v = .non := by cases h; rfl
theorem Rep.to_tup {v : V} {ds : List D} (h : Rep K F A v (.tup ds)) : ∃ p vs, v = .ref p ∧ SqT K F p vs ∧ Reps K F A vs ds := by cases h with | tup a b => exact ⟨_, _, rfl, a, b⟩
theorem Rep.to_lst {v : V} {ds : List D} (h : Rep K F A v (.lst ds)) : ∃ p vs, v = .ref p ∧ F p = some (.lst vs) ∧ Reps K F A vs ds := by cases h with | lst a b => exact ⟨_, _, rfl, a, b⟩
theorem Rep.to_obj {v : V} {n : Nat} (h : Rep K F A v (.obj n)) : ∃ p, v = .ref p ∧ A[n]? = some p := by cases h with | obj a => exact ⟨_, rfl, a⟩
theorem Rep.to_ty {v : V} {n : String} (h : Rep K F A v (.ty n)) : v = .ty n := by cases h; rfl
end

/-! ### states -/
section
variable (K : PySem.W.Frag) (CA : Str → Option Addr)
def ObR (W : Wd) (H : Hp) (n : Nat) (p : Addr) : Ob → Prop
  | .ins c fs => ∃ C dx vs, CA c = some C ∧ H p = some (.ins C dx vs) ∧ W.ρ dx = some (.dx n) ∧ H dx = some (.own p) ∧ vs.map (·.1) = fs.map (·.1) ∧ W.reps K (vs.map (·.2)) (fs.map (·.2))
  | .ls ds => ∃ vs, H p = some (.lst vs) ∧ W.reps K vs ds
  | .dk ks => ∃ vs, H p = some (.dK vs) ∧ vs.map (·.1) = ks.map (·.1) ∧ W.reps K (vs.map (·.2)) (ks.map (·.2))
/-- the heap's side of a state -/
structure HRel (W : Wd) (H : Hp) (obs : Obs) : Prop where
  fro : ∀ p o, W.ρ p = some (.fro o) → H p = some o
  keep : ∀ p o, W.ρ p = some (.keep o) → H p = some o
  live : ∀ p r, W.ρ p = some r → ∃ o, H p = some o
  len : W.A.length = obs.length
  obs : ∀ n ob, obs[n]? = some ob → ∃ p, W.A[n]? = some p ∧ W.ρ p = some (.ob n) ∧ ObR K CA W H n p ob
def SlR (W : Wd) (H : Hp) (i : Nat) (ov : Option V) : Sl → Prop
  | .un => True
  | .v d => ∃ v, ov = some v ∧ W.rep K v d
  | .ol ds => ∃ p vs, ov = some (.ref p) ∧ W.ρ p = some (.own i) ∧ H p = some (.lst vs) ∧ W.reps K vs ds
  | .od ks => ∃ p vs, ov = some (.ref p) ∧ W.ρ p = some (.own i) ∧ H p = some (.dK vs) ∧ vs.map (·.1) = ks.map (·.1) ∧ W.reps K (vs.map (·.2)) (ks.map (·.2))
structure SRel (W : Wd) (σ : L2.St) (H : Hp) (env : Env) (obs : Obs) : Prop where
  h : HRel K CA W H obs
  len : σ.length = env.length
  sl : ∀ i s, env[i]? = some s → SlR K W H i ((σ[i]?).join) s
end

/-- behind an expression: all roles stay, lists of one's own are as they were -/
structure Wd.leE (W W' : Wd) (H H' : Hp) : Prop where
  r : ∀ p r, W.ρ p = some r → W'.ρ p = some r
  o : ∀ p r, W.ρ p = some r → r.loose = true → H' p = H p
  a : ∀ (n : Nat) p, W.A[n]? = some p → W'.A[n]? = some p
/-- behind a call, as its caller sees it: the data and the objects stay -/
structure Wd.leO (W W' : Wd) : Prop where
  r : ∀ p r, W.ρ p = some r → r.solid = true → W'.ρ p = some r
  a : ∀ (n : Nat) p, W.A[n]? = some p → W'.A[n]? = some p
/-- behind a statement: all roles stay but loose ones -/
structure Wd.leS (W W' : Wd) : Prop where
  r : ∀ p r, W.ρ p = some r → r.loose = false → W'.ρ p = some r
  a : ∀ (n : Nat) p, W.A[n]? = some p → W'.A[n]? = some p
section
variable {W W1 W2 W' : Wd} {H H1 H2 H' : Hp}
theorem Wd.leE.refl : W.leE W H H := ⟨fun _ _ h => h, fun _ _ _ _ => rfl, fun _ _ h => h⟩
theorem Wd.leE.trans (a : W.leE W1 H H1) (b : W1.leE W2 H1 H2) : W.leE W2 H H2 :=
  ⟨fun p r h => b.r p r (a.r p r h), fun p r h l => (b.o p r (a.r p r h) l).trans (a.o p r h l), fun n p h => b.a n p (a.a n p h)⟩
theorem Wd.leE.s (a : W.leE W' H H') : W.leS W' := ⟨fun p r h _ => a.r p r h, a.a⟩
theorem Wd.leS.refl : W.leS W := ⟨fun _ _ h _ => h, fun _ _ h => h⟩
theorem Wd.leS.trans (a : W.leS W1) (b : W1.leS W2) : W.leS W2 := ⟨fun p r h l => b.r p r (a.r p r h l) l, fun n p h => b.a n p (a.a n p h)⟩
theorem Wd.leS.o (a : W.leS W') : W.leO W' := ⟨fun p r h l => a.r p r h (Role.solid_loose l), a.a⟩
theorem Wd.leO.d (a : W.leO W') : W.dle W' := ⟨fun p o h => a.r p _ h rfl, a.a⟩
theorem Wd.leS.d (a : W.leS W') : W.dle W' := a.o.d
theorem Wd.leE.d (a : W.leE W' H H') : W.dle W' := a.s.d
end
end Mp

set_option Elab.async false
set_option linter.all false
set_option maxRecDepth 100000
/-! States: what may be done to them; the readings of expressions and statements over data. -/
namespace Mp
open PySem PySem.Spec PyProof.Rows L2

section
variable {K : PySem.W.Frag} {CA : Str → Option Addr} {W W' : Wd} {H H' : Hp} {obs obs' : Obs} {env : Env} {σ : L2.St} {p : Addr}

theorem ObR.mono {n : Nat} {ob : Ob} (l : W.leO W') (hr : W.ρ p = some (.ob n)) (hh : ∀ q r, W.ρ q = some r → r = .ob n ∨ r = .dx n → H' q = H q) (h : ObR K CA W H n p ob) : ObR K CA W' H' n p ob := by
  cases ob with
  | ins c fs =>
    obtain ⟨C, dx, vs, e1, e2, e3, e4, e5, e6⟩ := h
    exact ⟨C, dx, vs, e1, (hh p _ hr (.inl rfl)).trans e2, l.r dx _ e3 rfl, (hh dx _ e3 (.inr rfl)).trans e4, e5, l.d.reps e6⟩
  | ls fs =>
    obtain ⟨vs, e2, e6⟩ := h
    exact ⟨vs, (hh p _ hr (.inl rfl)).trans e2, l.d.reps e6⟩
  | dk ks =>
    obtain ⟨vs, e2, e3, e6⟩ := h
    exact ⟨vs, (hh p _ hr (.inl rfl)).trans e2, e3, l.d.reps e6⟩
theorem HRel.fresh (h : HRel K CA W H obs) (e : H p = none) : W.ρ p = none := by
  cases q : W.ρ p with
  | none => rfl
  | some r => obtain ⟨o, z⟩ := h.live p r q; rw [e] at z; cases z
/-- a world with more roles, a heap that keeps what has a role -/
theorem HRel.mono (h : HRel K CA W H obs) (l : ∀ p r, W.ρ p = some r → W'.ρ p = some r) (ha : W'.A = W.A) (hh : ∀ p r, W.ρ p = some r → H' p = H p)
    (nf : ∀ p o, W'.ρ p = some (.fro o) → W.ρ p = none → H' p = some o) (nk : ∀ p o, W'.ρ p = some (.keep o) → W.ρ p = none → H' p = some o) (nl : ∀ p r, W'.ρ p = some r → W.ρ p = none → ∃ o, H' p = some o) : HRel K CA W' H' obs := by
  have ls : W.leO W' := ⟨fun p r e _ => l p r e, fun n p e => by rw [ha]; exact e⟩
  refine ⟨fun p o e => ?_, fun p o e => ?_, fun p r e => ?_, by rw [ha]; exact h.len, fun n ob e => ?_⟩
  · cases q : W.ρ p with
    | none => exact nf p o e q
    | some r =>
      have := l p r q; rw [e] at this; cases this
      exact (hh p _ q).trans (h.fro p o q)
  · cases q : W.ρ p with
    | none => exact nk p o e q
    | some r =>
      have := l p r q; rw [e] at this; cases this
      exact (hh p _ q).trans (h.keep p o q)
  · cases q : W.ρ p with
    | none => exact nl p r e q
    | some r' =>
      obtain ⟨o, z⟩ := h.live p r' q
      exact ⟨o, (hh p _ q).trans z⟩
  · obtain ⟨p, a1, a2, a3⟩ := h.obs n ob e
    exact ⟨p, by rw [ha]; exact a1, l p _ a2, a3.mono ls a2 fun q r z _ => hh q r z⟩
theorem SlR.mono {i : Nat} {ov : Option V} {s : Sl} (l : W.dle W') (hr : ∀ p, W.ρ p = some (.own i) → W'.ρ p = some (.own i) ∧ H' p = H p) (h : SlR K W H i ov s) : SlR K W' H' i ov s := by
  cases s with
  | un => trivial
  | v d => obtain ⟨v, e, r⟩ := h; exact ⟨v, e, l.rep r⟩
  | ol ds =>
    obtain ⟨p, vs, e, r, hp, q⟩ := h
    exact ⟨p, vs, e, (hr p r).1, (hr p r).2.trans hp, l.reps q⟩
  | od ks =>
    obtain ⟨p, vs, e, r, hp, q, z⟩ := h
    exact ⟨p, vs, e, (hr p r).1, (hr p r).2.trans hp, q, l.reps z⟩
/-- a new role for a new address -/
theorem SRel.add {r : Role} {o : HO} (h : SRel K CA W σ H env obs) (hp : H p = none) (hf : ∀ u, r = .fro u → u = o) (hk : ∀ u, r ≠ .keep u) : SRel K CA (W.put p r) σ (upd H p o) env obs := by
  have n := h.h.fresh hp
  have ne : ∀ q r', W.ρ q = some r' → q ≠ p := fun q r' e z => by rw [z, n] at e; cases e
  have hu : ∀ q r', W.ρ q = some r' → upd H p o q = H q := fun q r' e => upd_ne (ne q r' e)
  have hl : ∀ q r', W.ρ q = some r' → (W.put p r).ρ q = some r' := fun q r' e => by rw [Wd.put_ne (ne q r' e)]; exact e
  have new : ∀ q r', (W.put p r).ρ q = some r' → W.ρ q = none → q = p ∧ r' = r := fun q r' e z => by
    by_cases hq : q = p
    · subst hq; rw [Wd.put_same] at e; exact ⟨rfl, (Option.some.inj e).symm⟩
    · rw [Wd.put_ne hq, z] at e; cases e
  refine ⟨h.h.mono hl rfl hu (fun q u e z => ?_) (fun q u e z => ?_) (fun q u e z => ?_), h.len, fun i s e => ?_⟩
  · obtain ⟨rfl, e2⟩ := new q _ e z
    rw [upd_same, hf u e2.symm]
  · obtain ⟨rfl, e2⟩ := new q _ e z
    exact absurd e2.symm (hk u)
  · obtain ⟨rfl, _⟩ := new q _ e z
    exact ⟨o, upd_same⟩
  · exact SlR.mono ⟨fun q u z => hl q _ z, fun _ _ z => z⟩ (fun q z => ⟨hl q _ z, hu q _ z⟩) (h.sl i s e)
theorem leE_add {r : Role} {o : HO} (n : W.ρ p = none) : W.leE (W.put p r) H (upd H p o) := by
  have ne : ∀ q r', W.ρ q = some r' → q ≠ p := fun q r' e z => by rw [z, n] at e; cases e
  exact ⟨fun q r' e => by rw [Wd.put_ne (ne q r' e)]; exact e, fun q r' e _ => upd_ne (ne q r' e), fun _ _ e => e⟩
/-- a new object -/
theorem SRel.onew {o : HO} {ob : Ob} (h : SRel K CA W σ H env obs) (hp : H p = none) (hb : ∀ W' : Wd, W.dle W' → (∀ q r, W.ρ q = some r → W'.ρ q = some r) → W'.ρ p = some (.ob obs.length) → ObR K CA W' (upd H p o) obs.length p ob) :
    ∃ W', W.leE W' H (upd H p o) ∧ SRel K CA W' σ (upd H p o) env (obs ++ [ob]) ∧ W'.A[obs.length]? = some p := by
  have n := h.h.fresh hp
  let W1 : Wd := ⟨(W.put p (.ob obs.length)).ρ, W.A ++ [p]⟩
  have ne : ∀ q r', W.ρ q = some r' → q ≠ p := fun q r' e z => by rw [z, n] at e; cases e
  have hu : ∀ q r', W.ρ q = some r' → upd H p o q = H q := fun q r' e => upd_ne (ne q r' e)
  have hl : ∀ q r', W.ρ q = some r' → W1.ρ q = some r' := fun q r' e => by
    show (W.put p (.ob obs.length)).ρ q = _
    rw [Wd.put_ne (ne q r' e)]; exact e
  have new : ∀ q r', W1.ρ q = some r' → W.ρ q = some r' ∨ (q = p ∧ r' = .ob obs.length) := fun q r' e => by
    have e : (W.put p (.ob obs.length)).ρ q = some r' := e
    by_cases hq : q = p
    · subst hq; rw [Wd.put_same] at e; exact .inr ⟨rfl, (Option.some.inj e).symm⟩
    · rw [Wd.put_ne hq] at e; exact .inl e
  have hA : ∀ (m : Nat) q, W.A[m]? = some q → (W.A ++ [p])[m]? = some q := fun m q e => by
    rw [List.getElem?_append_left (List.getElem?_eq_some_iff.mp e).1]; exact e
  have le : W.leE W1 H (upd H p o) := ⟨hl, fun q r' e _ => hu q r' e, hA⟩
  have hp1 : W1.ρ p = some (.ob obs.length) := Wd.put_same
  have hAn : (W.A ++ [p])[obs.length]? = some p := by rw [← h.h.len, List.getElem?_append_right (Nat.le_refl _)]; simp
  refine ⟨W1, le, ⟨⟨fun q u e => ?_, fun q u e => ?_, fun q u e => ?_, by simp [W1, h.h.len], fun m ob' e => ?_⟩, h.len, fun i s e => ?_⟩, hAn⟩
  · rcases new q _ e with e | ⟨_, e⟩
    · exact (hu q _ e).trans (h.h.fro q u e)
    · cases e
  · rcases new q _ e with e | ⟨_, e⟩
    · exact (hu q _ e).trans (h.h.keep q u e)
    · cases e
  · rcases new q _ e with e | ⟨rfl, _⟩
    · obtain ⟨z, hz⟩ := h.h.live q u e
      exact ⟨z, (hu q _ e).trans hz⟩
    · exact ⟨o, upd_same⟩
  · by_cases hm : m < obs.length
    · rw [List.getElem?_append_left hm] at e
      obtain ⟨q, a1, a2, a3⟩ := h.h.obs m ob' e
      exact ⟨q, hA m q a1, hl q _ a2, a3.mono le.s.o a2 fun q r z _ => hu q r z⟩
    · have hm' : m = obs.length := by
        have := (List.getElem?_eq_some_iff.mp e).1
        simp at this; omega
      subst hm'
      rw [List.getElem?_append_right (Nat.le_refl _)] at e
      simp at e; subst e
      exact ⟨p, hAn, hp1, hb W1 le.d hl hp1⟩
  · exact SlR.mono le.d (fun q z => ⟨hl q _ z, hu q _ z⟩) (h.sl i s e)
/-- an object is written -/
theorem SRel.owrite {n : Nat} {o : HO} {ob : Ob} (h : SRel K CA W σ H env obs) (hA : W.A[n]? = some p) (hn : n < obs.length) (hb : ObR K CA W (upd H p o) n p ob) :
    SRel K CA W σ (upd H p o) env (obs.set n ob) ∧ W.leE W H (upd H p o) := by
  have hr : W.ρ p = some (.ob n) := by
    obtain ⟨q, a1, a2, _⟩ := h.h.obs n obs[n] (List.getElem?_eq_getElem hn)
    rw [hA] at a1; cases a1; exact a2
  have ne : ∀ q r', W.ρ q = some r' → r' ≠ .ob n → q ≠ p := fun q r' e l z => by rw [z, hr] at e; cases e; exact l rfl
  refine ⟨⟨⟨fun q u e => ?_, fun q u e => ?_, fun q u e => ?_, by simp [h.h.len], fun m ob' e => ?_⟩, h.len, fun i s e => ?_⟩, fun _ _ e => e, fun q r' e l => upd_ne (ne q r' e fun z => by subst z; cases l), fun _ _ e => e⟩
  · rw [upd_ne (ne q _ e (by simp))]; exact h.h.fro q u e
  · rw [upd_ne (ne q _ e (by simp))]; exact h.h.keep q u e
  · by_cases hq : q = p
    · subst hq; exact ⟨_, upd_same⟩
    · rw [upd_ne hq]; exact h.h.live q u e
  · by_cases hm : n = m
    · subst hm
      rw [List.getElem?_set_self hn] at e
      cases e
      exact ⟨p, hA, hr, hb⟩
    · rw [List.getElem?_set_ne hm] at e
      obtain ⟨q, a1, a2, a3⟩ := h.h.obs m ob' e
      refine ⟨q, a1, a2, a3.mono Wd.leS.refl.o a2 fun q r z hz => upd_ne (ne q r z ?_)⟩
      rcases hz with rfl | rfl
      · intro z; cases z; exact hm rfl
      · simp
  · exact SlR.mono .refl (fun q z => ⟨z, upd_ne (ne q _ z (by simp))⟩) (h.sl i s e)
/-- an object that is an instance -/
theorem SRel.oins {n : Nat} {v : V} {c : Str} {fs : List (Str × D)} (h : SRel K CA W σ H env obs) (r : W.rep K v (.obj n)) (e : obs[n]? = some (.ins c fs)) :
    ∃ p C dx vs, v = .ref p ∧ W.A[n]? = some p ∧ CA c = some C ∧ H p = some (.ins C dx vs) ∧ W.ρ dx = some (.dx n) ∧ H dx = some (.own p) ∧ vs.map (·.1) = fs.map (·.1) ∧ W.reps K (vs.map (·.2)) (fs.map (·.2)) := by
  obtain ⟨p, rfl, hA⟩ := r.to_obj
  obtain ⟨q, a1, a2, C, dx, vs, a3, a4, a5, a6, a7, a8⟩ := h.h.obs n _ e
  rw [hA] at a1; cases a1
  exact ⟨p, C, dx, vs, rfl, hA, a3, a4, a5, a6, a7, a8⟩
/-- an object that is a list -/
theorem SRel.ols {n : Nat} {v : V} {ds : List D} (h : SRel K CA W σ H env obs) (r : W.rep K v (.obj n)) (e : obs[n]? = some (.ls ds)) : ∃ p vs, v = .ref p ∧ W.A[n]? = some p ∧ H p = some (.lst vs) ∧ W.reps K vs ds := by
  obtain ⟨p, rfl, hA⟩ := r.to_obj
  obtain ⟨q, a1, a2, vs, a3, a4⟩ := h.h.obs n _ e
  rw [hA] at a1; cases a1
  exact ⟨p, vs, rfl, hA, a3, a4⟩
/-- a heap with more in it -/
theorem SRel.heap (h : SRel K CA W σ H env obs) (hh : ∀ p o, H p = some o → H' p = some o) : SRel K CA W σ H' env obs := by
  have hu : ∀ q r, W.ρ q = some r → H' q = H q := fun q r e => by
    obtain ⟨o, z⟩ := h.h.live q r e
    rw [z, hh q o z]
  exact ⟨h.h.mono (fun _ _ e => e) rfl hu (fun q u e z => by rw [z] at e; cases e) (fun q u e z => by rw [z] at e; cases e) (fun q u e z => by rw [z] at e; cases e), h.len,
    fun i s e => SlR.mono .refl (fun q z => ⟨z, hu q _ z⟩) (h.sl i s e)⟩
theorem leE_heap (h : SRel K CA W σ H env obs) (hh : ∀ p o, H p = some o → H' p = some o) : W.leE W H H' :=
  ⟨fun _ _ e => e, fun q r e _ => by
    obtain ⟨o, z⟩ := h.h.live q r e
    rw [z, hh q o z], fun _ _ e => e⟩
/-- a role that is loose and that no slot of the state needs is changed -/
theorem SRel.turn {r r0 : Role} (h : SRel K CA W σ H env obs) (h0 : W.ρ p = some r0) (hl : r0.loose = true) (hs : ∀ i s, r0 = .own i → env[i]? = some s → (∃ d, s = .v d) ∨ s = .un)
    (hf : ∀ u, r = .fro u → H p = some u) (hk : ∀ u, r = .keep u → H p = some u) : SRel K CA (W.put p r) σ H env obs := by
  have ls : W.leS (W.put p r) := ⟨fun q r' e l' => by
    by_cases hq : q = p
    · subst hq; rw [h0] at e; cases e; rw [hl] at l'; cases l'
    · rw [Wd.put_ne hq]; exact e, fun _ _ e => e⟩
  refine ⟨⟨fun q u e => ?_, fun q u e => ?_, fun q u e => ?_, h.h.len, fun n ob e => ?_⟩, h.len, fun i s e => ?_⟩
  · by_cases hq : q = p
    · subst hq; rw [Wd.put_same] at e; exact hf u (Option.some.inj e)
    · rw [Wd.put_ne hq] at e; exact h.h.fro q u e
  · by_cases hq : q = p
    · subst hq; rw [Wd.put_same] at e; exact hk u (Option.some.inj e)
    · rw [Wd.put_ne hq] at e; exact h.h.keep q u e
  · by_cases hq : q = p
    · subst hq; exact h.h.live _ _ h0
    · rw [Wd.put_ne hq] at e; exact h.h.live q u e
  · obtain ⟨q, a1, a2, a3⟩ := h.h.obs n ob e
    exact ⟨q, a1, ls.r q _ a2 rfl, a3.mono ls.o a2 fun _ _ _ _ => rfl⟩
  · by_cases ho : r0 = .own i
    · rcases hs i s ho e with ⟨d, rfl⟩ | rfl
      · obtain ⟨v, a, b⟩ := h.sl i _ e
        exact ⟨v, a, ls.d.rep b⟩
      · trivial
    · refine SlR.mono ls.d (fun q z => ⟨?_, rfl⟩) (h.sl i s e)
      have hq : q ≠ p := fun y => by subst y; rw [h0] at z; exact ho (Option.some.inj z)
      rw [Wd.put_ne hq]; exact z
theorem leS_turn {r r0 : Role} (h0 : W.ρ p = some r0) (hl : r0.loose = true) : W.leS (W.put p r) :=
  ⟨fun q r' e l' => by
    by_cases hq : q = p
    · subst hq; rw [h0] at e; cases e; rw [hl] at l'; cases l'
    · rw [Wd.put_ne hq]; exact e, fun _ _ e => e⟩
/-- a slot is set -/
theorem SRel.set {i : Nat} {v : V} {s : Sl} (h : SRel K CA W σ H env obs) (hv : SlR K W H i (some v) s) : SRel K CA W (σ.set i (some v)) H (env.set i s) obs := by
  refine ⟨h.h, by simp [h.len], fun j t e => ?_⟩
  by_cases hj : i = j
  · subst hj
    have hi : i < env.length := by
      have := (List.getElem?_eq_some_iff.mp e).1
      simpa using this
    rw [List.getElem?_set_self hi] at e
    cases e
    rw [List.getElem?_set_self (by rw [h.len]; exact hi)]
    exact hv
  · rw [List.getElem?_set_ne hj] at e ⊢
    exact h.sl j t e
theorem SRel.get {i : Nat} {d : D} (h : SRel K CA W σ H env obs) (e : env[i]? = some (.v d)) : ∃ v, σ[i]? = some (some v) ∧ W.rep K v d := by
  obtain ⟨v, a, b⟩ := h.sl i _ e
  refine ⟨v, ?_, b⟩
  cases q : σ[i]? with
  | none => rw [q] at a; cases a
  | some x => rw [q] at a; rw [show x = some v from a]
theorem SRel.getL {i : Nat} {ds : List D} (h : SRel K CA W σ H env obs) (e : env[i]? = some (.ol ds)) : ∃ p vs, σ[i]? = some (some (.ref p)) ∧ W.ρ p = some (.own i) ∧ H p = some (.lst vs) ∧ W.reps K vs ds := by
  obtain ⟨p, vs, a, b⟩ := h.sl i _ e
  refine ⟨p, vs, ?_, b⟩
  cases q : σ[i]? with
  | none => rw [q] at a; cases a
  | some x => rw [q] at a; rw [show x = some (.ref p) from a]
/-- the slots' values as they are, some forgotten -/
theorem SRel.weak {σ' : L2.St} {env' : Env} (h : SRel K CA W σ H env obs) (hl : σ'.length = env'.length) (hs : ∀ (i : Nat) (s : Sl), env'[i]? = some s → s = .un ∨ (env[i]? = some s ∧ σ'[i]? = σ[i]?)) : SRel K CA W σ' H env' obs :=
  ⟨h.h, hl, fun i s e => by
    rcases hs i s e with rfl | ⟨a, b⟩
    · trivial
    · rw [b]; exact h.sl i s a⟩
/-- an owned list is written -/
theorem SRel.write {i : Nat} {ds : List D} {vs : List V} (h : SRel K CA W σ H env obs) (hi : i < env.length) (hs : σ[i]? = some (some (.ref p))) (hr : W.ρ p = some (.own i)) (q : W.reps K vs ds) (hot : ∀ s, env[i]? = some s → ∃ es, s = .ol es) : SRel K CA W σ (upd H p (.lst vs)) (env.set i (.ol ds)) obs := by
  have ne : ∀ q r', W.ρ q = some r' → r'.loose = false → q ≠ p := fun q r' e l z => by rw [z, hr] at e; cases e; cases l
  refine ⟨⟨fun q u e => ?_, fun q u e => ?_, fun q u e => ?_, h.h.len, fun n ob e => ?_⟩, by simp [h.len], fun j t e => ?_⟩
  · rw [upd_ne (ne q _ e rfl)]; exact h.h.fro q u e
  · rw [upd_ne (ne q _ e rfl)]; exact h.h.keep q u e
  · by_cases hq : q = p
    · subst hq; exact ⟨_, upd_same⟩
    · rw [upd_ne hq]; exact h.h.live q u e
  · obtain ⟨q, a1, a2, a3⟩ := h.h.obs n ob e
    refine ⟨q, a1, a2, a3.mono Wd.leS.refl.o a2 fun q r z hz => upd_ne (ne q r z ?_)⟩
    rcases hz with rfl | rfl <;> rfl
  · by_cases hj : i = j
    · subst hj
      rw [List.getElem?_set_self hi] at e
      cases e
      exact ⟨p, vs, by rw [hs]; rfl, hr, upd_same, q⟩
    · rw [List.getElem?_set_ne hj] at e
      refine SlR.mono .refl (fun q z => ⟨z, upd_ne fun y => ?_⟩) (h.sl j t e)
      subst y; rw [hr] at z; cases z; exact hj rfl
end

/-! ### readings -/
section
variable (K : PySem.W.Frag) (CA : Str → Option Addr) (W0 : WX)
/-- how an exception of the class c with the value a lies: its class, its own dict -/
def XR (W : Wd) (H : Hp) (cls : Value) (d : Option Addr) (c : Str) : D → Prop
  | .non => ∃ C, CA c = some C ∧ cls = .ref C
  | a => ∃ C dd v, CA c = some C ∧ cls = .ref C ∧ d = some dd ∧ H dd = some (.xd [(("place" : Str), v)]) ∧ W.rep K v a
/-- what lies between a value of the model and the data: by the world ahead, the world behind, the heap behind -/
abbrev Rl (α β : Type) := Wd → Wd → Hp → β → α → Prop
abbrev relE : Rl D V := fun _ W' _ v d => W'.rep K v d
abbrev relT : Rl Bool Bool := fun _ _ _ v d => v = d
abbrev relO : Rl (Option Int) (Option Int) := fun _ _ _ v d => v = d
abbrev relA : Rl (List D) (List V) := fun _ W' _ v d => W'.reps K v d
abbrev relF : Rl (List D) V := fun W W' H' v ds => ∃ p vs, v = .ref p ∧ W.ρ p = none ∧ W'.ρ p = some .acc ∧ H' p = some (.lst vs) ∧ W'.reps K vs ds
/-- what a run over data says of what is wanted -/
def GP {α β : Type} (rel : Rl α β) (W : Wd) (env : Env) (σ : L2.St) (H : Hp) (Q : β → Hp → Prop) : R α → Prop
  | .ok d obs' => ∀ v W' H', W.leE W' H H' → SRel K CA W' σ H' env obs' → rel W W' H' v d → Q v H'
  | .ex c a obs' => ∀ cls dd W' H', W.leE W' H H' → SRel K CA W' σ H' env obs' → XR K CA W' H' cls dd c a → W0 cls dd σ H'
  | .bad => False
def LG {α β : Type} (rel : Rl α β) (f : Env → Obs → R α) : L2.St → Hp → (β → Hp → Prop) → Prop := fun σ H Q => ∃ W env obs, SRel K CA W σ H env obs ∧ GP K CA W0 rel W env σ H Q (f env obs)
/-- an expression's reading -/
abbrev LE (f : Env → Obs → R D) : TE := LG K CA W0 (relE K) f
abbrev LT (f : Env → Obs → R Bool) : TT := LG K CA W0 relT f
abbrev LA (f : Env → Obs → R (List D)) : TA := LG K CA W0 (relA K) f
abbrev LO (f : Env → Obs → R (Option Int)) : TO := LG K CA W0 relO f
/-- a new list -/
abbrev LF (f : Env → Obs → R (List D)) : TE := LG K CA W0 (relF K) f
def LPost (W : Wd) (D : Ends) : RS → Prop
  | .nx env obs => ∀ σ' W' H', W.leS W' → SRel K CA W' σ' H' env obs → D.nx σ' H'
  | .rt d obs => ∀ v W' H', W.leS W' → HRel K CA W' H' obs → W'.rep K v d → D.rt v H'
  | .bk env obs => ∀ σ' W' H', W.leS W' → SRel K CA W' σ' H' env obs → D.bk σ' H'
  | .ct env obs => ∀ σ' W' H', W.leS W' → SRel K CA W' σ' H' env obs → D.ct σ' H'
  | .ex c a env obs => ∀ cls dd σ' W' H', W.leS W' → SRel K CA W' σ' H' env obs → XR K CA W' H' cls dd c a → W0 cls dd σ' H'
  | .bad => False
/-- a statement's -/
def LS (f : Env → Obs → RS) : TS := fun D σ H => ∃ W env obs, SRel K CA W σ H env obs ∧ LPost K CA W0 W D (f env obs)
end
section
variable {K : PySem.W.Frag} {CA : Str → Option Addr} {W0 : WX} {W W1 : Wd} {H H1 : Hp} {obs : Obs} {env : Env} {σ : L2.St} {α β γ δ : Type} {rel : Rl α β} {rel2 : Rl γ δ}
/-- a relation that may be told of an earlier world -/
def Rl.Early (rel : Rl α β) : Prop := ∀ W W1 W' H H1 H' v a, Wd.leE W W1 H H1 → rel W1 W' H' v a → rel W W' H' v a
theorem earlyE : Rl.Early (relE K) := fun _ _ _ _ _ _ _ _ _ h => h
theorem earlyT : Rl.Early relT := fun _ _ _ _ _ _ _ _ _ h => h
theorem earlyO : Rl.Early relO := fun _ _ _ _ _ _ _ _ _ h => h
theorem earlyA : Rl.Early (relA K) := fun _ _ _ _ _ _ _ _ _ h => h
theorem earlyF : Rl.Early (relF K) := fun W W1 _ _ _ _ _ _ l ⟨p, vs, e, n, h⟩ => ⟨p, vs, e, (by
  cases q : W.ρ p with
  | none => rfl
  | some r => rw [l.r p r q] at n; cases n), h⟩
theorem GP.mono {Q : β → Hp → Prop} (er : rel.Early) (l : W.leE W1 H H1) : ∀ {r : R α}, GP K CA W0 rel W env σ H Q r → GP K CA W0 rel W1 env σ H1 Q r
  | .ok d o, h => fun v W' H' l' S r => h v W' H' (l.trans l') S (er _ _ _ _ _ _ _ _ l r)
  | .ex c a o, h => fun cls dd W' H' l' S r => h cls dd W' H' (l.trans l') S r
  | .bad, h => h
/-- a run, then another one -/
theorem LG.bnd {Q : δ → Hp → Prop} {T : β → Hp → Prop} {fa : Env → Obs → R α} {k : α → Obs → R γ} (er : rel2.Early) (S : SRel K CA W σ H env obs) (h : GP K CA W0 rel2 W env σ H Q ((fa env obs).bind k))
    (kk : ∀ a o1 v W1 H1, W.leE W1 H H1 → SRel K CA W1 σ H1 env o1 → rel W W1 H1 v a → GP K CA W0 rel2 W1 env σ H1 Q (k a o1) → T v H1) : LG K CA W0 rel fa σ H T := by
  refine ⟨W, env, obs, S, ?_⟩
  cases e : fa env obs with
  | ok a o => exact fun v W' H' l S' r => kk a o v W' H' l S' r (GP.mono er l (by rw [e] at h; exact h))
  | ex c a o => rw [e] at h; exact h
  | bad => rw [e] at h; exact h
/-- the end: data, nothing laid -/
theorem GP.fin {Q : β → Hp → Prop} {o : Option α} (S : SRel K CA W σ H env obs) {v : β} (h : GP K CA W0 rel W env σ H Q (R.opt obs o)) (r : ∀ d, o = some d → rel W W H v d) : Q v H := by
  cases o with
  | none => exact h.elim
  | some d => exact h v W H .refl S (r d rfl)
theorem GP.opt {Q : β → Hp → Prop} {o : Option α} (h : GP K CA W0 rel W env σ H Q (R.opt obs o)) : ∃ d, o = some d ∧ ∀ v W' H', W.leE W' H H' → SRel K CA W' σ H' env obs → rel W W' H' v d → Q v H' := by
  cases o with
  | none => exact h.elim
  | some d => exact ⟨d, rfl, h⟩
/-- a new tuple -/
theorem GP.tup {Q : V → Hp → Prop} {ds : List D} {vs : List V} (S : SRel K CA W σ H env obs) (q : ∀ v W' H', W.leE W' H H' → SRel K CA W' σ H' env obs → W'.rep K v (.tup ds) → Q v H') (r : W.reps K vs ds) :
    ∀ p, H p = none → Q (.ref p) (upd H p (.tup vs)) := fun p hp => by
  have n := S.h.fresh hp
  refine q _ (W.put p (.fro (.tup vs))) _ (leE_add n) (S.add hp (fun u e => by injection e with e; exact e.symm) (fun u e => nomatch e)) (.tup (.inl (.inl (Wd.F_of.mpr Wd.put_same))) ?_)
  exact (leE_add (H := H) (o := .tup vs) n).d.reps r
theorem GP.lst {Q : V → Hp → Prop} {ds : List D} {vs : List V} (S : SRel K CA W σ H env obs) (q : ∀ v W' H', W.leE W' H H' → SRel K CA W' σ H' env obs → W'.rep K v (.lst ds) → Q v H') (r : W.reps K vs ds) :
    ∀ p, H p = none → Q (.ref p) (upd H p (.lst vs)) := fun p hp => by
  have n := S.h.fresh hp
  refine q _ (W.put p (.fro (.lst vs))) _ (leE_add n) (S.add hp (fun u e => by injection e with e; exact e.symm) (fun u e => nomatch e)) (.lst (Wd.F_of.mpr Wd.put_same) ?_)
  exact (leE_add (H := H) (o := .lst vs) n).d.reps r
/-- a new list of nobody's yet -/
theorem GP.new {Q : V → Hp → Prop} {ds : List D} {vs : List V} (S : SRel K CA W σ H env obs) (q : ∀ v W' H', W.leE W' H H' → SRel K CA W' σ H' env obs → relF K W W' H' v ds → Q v H') (r : W.reps K vs ds) :
    ∀ p, H p = none → Q (.ref p) (upd H p (.lst vs)) := fun p hp => by
  have n := S.h.fresh hp
  exact q _ (W.put p .acc) _ (leE_add n) (S.add hp (fun u e => nomatch e) (fun u e => nomatch e)) ⟨p, vs, rfl, n, Wd.put_same, upd_same, (leE_add (H := H) (o := .lst vs) n).d.reps r⟩
end
theorem PE.weak {X : Cx} {e : Expr} {t t' : TE} (h : PE X e t) (w : ∀ σ H Q, t' σ H Q → t σ H Q) : PE X e t' := ⟨fun pins s σ H Q I q => h.run pins s σ H Q I (w σ H Q q)⟩
theorem PT.weak {X : Cx} {e : Expr} {t t' : TT} (h : PT X e t) (w : ∀ σ H Q, t' σ H Q → t σ H Q) : PT X e t' := ⟨fun pins s σ H Q I q => h.run pins s σ H Q I (w σ H Q q)⟩
theorem PA.weak {X : Cx} {e : List Expr} {t t' : TA} (h : PA X e t) (w : ∀ σ H Q, t' σ H Q → t σ H Q) : PA X e t' := ⟨fun pos pins s σ H Q I q => h.run pos pins s σ H Q I (w σ H Q q)⟩
theorem PS.weak {X : Cx} {e : Stmt} {t t' : TS} (h : PS X e t) (w : ∀ D σ H, t' D σ H → t D σ H) : PS X e t' := ⟨fun pins s σ H D I q => h.run pins s σ H D I (w D σ H q)⟩
theorem PSs.weak {X : Cx} {e : List Stmt} {t t' : TS} (h : PSs X e t) (w : ∀ D σ H, t' D σ H → t D σ H) : PSs X e t' := ⟨fun pins s σ H D I q => h.run pins s σ H D I (w D σ H q)⟩
theorem PW.weak {X : Cx} {e : Expr} {t t' : TT} (h : PW X e t) (w : ∀ σ H Q, t' σ H Q → t σ H Q) : PW X e t' := ⟨fun wh pins s σ H Q I q => h.run wh pins s σ H Q I (w σ H Q q)⟩
end Mp

set_option Elab.async false
set_option linter.all false
set_option maxRecDepth 100000
/-! The small language: its terms, what they mean over data, which terms of the model they stand for. -/
namespace Mp
open PySem PySem.Spec PyProof.Rows L2

/-! ### what operators do with data -/
def cutD (ds : List D) (lo hi : Option Int) : List D := (ds.drop (HT.sIx ds.length 0 lo)).take (HT.sIx ds.length ds.length hi - HT.sIx ds.length 0 lo)
def addD : D → D → Option D
  | .int a, .int b => some (.int (a + b))
  | .str a, .str b => if a.length + b.length ≤ sizeLine then some (.str (a ++ b)) else none
  | .tup a, .tup b => if a.length + b.length ≤ sizeLine then some (.tup (a ++ b)) else none
  | .lst a, .lst b => if a.length + b.length ≤ sizeLine then some (.lst (a ++ b)) else none
  | _, _ => none
def subD : D → D → Option D
  | .int a, .int b => some (.int (a - b))
  | _, _ => none
/-- a product of numbers: one of them below 2 to the 64, or both below 2 to the 400000 -/
def mulOk (a b : Int) : Bool := decide (a.natAbs < 2 ^ 64) || decide (b.natAbs < 2 ^ 64)
def mulD : D → D → Option D
  | .int a, .int b => if mulOk a b then some (.int (a * b)) else none
  | .lst a, .int k => if decide (-(2 ^ 63) ≤ k ∧ k < 2 ^ 63) && decide (a.length * k.toNat ≤ sizeLine) then some (.lst (List.replicate k.toNat a).flatten) else none
  | .tup a, .int k => if decide (-(2 ^ 63) ≤ k ∧ k < 2 ^ 63) && decide (a.length * k.toNat ≤ 1000000) then some (.tup (List.replicate k.toNat a).flatten) else none
  | _, _ => none
def divD : D → D → Option D
  | .int a, .int b => if decide (b ≠ 0 ∧ b.natAbs < 1073741824) || decide (0 < b ∧ b.natAbs.log2 < 9000) then some (.int (a.fdiv b)) else none
  | _, _ => none
def modD : D → D → Option D
  | .int a, .int b => if b = 0 then none else some (.int (a.fmod b))
  | _, _ => none
def powD : D → D → Option D
  | .int a, .int b => if decide (0 ≤ b ∧ b ≤ 1000000 ∧ a.natAbs < 2 ^ 64) then some (.int (a ^ b.toNat)) else none
  | _, _ => none
def shlD : D → D → Option D
  | .int a, .int b => if decide (0 ≤ b ∧ b ≤ 1000000 ∧ a.natAbs < 2 ^ 64) then some (.int (a * 2 ^ b.toNat)) else none
  | _, _ => none
/-- op= of numbers -/
def augD : Operator → D → D → Option D
  | .Add, .int a, .int b => some (.int (a + b))
  | .Sub, .int a, .int b => some (.int (a - b))
  | .Mult, .int a, .int b => if mulOk a b then some (.int (a * b)) else none
  | .FloorDiv, .int a, .int b => if decide (0 < b ∧ b < 1073741824) then some (.int (a / b)) else none
  | .Mod, .int a, .int b => if decide (0 < b) then some (.int (a % b)) else none
  | _, _, _ => none
def binD : Operator → D → D → Option D
  | .Add => addD | .Sub => subD | .Mult => mulD | .FloorDiv => divD | .Mod => modD | .Pow => powD | .LShift => shlD
  | _ => fun _ _ => none

/-! data without objects, as the model has them -/
mutual
def toP : D → Option PyData
  | .non => some .none
  | .bl b => some (.bool b)
  | .int i => some (.int i)
  | .str x => some (.str x)
  | .tup ds => (toPs ds).map .tuple
  | .lst ds => (toPs ds).map .list
  | _ => none
def toPs : List D → Option (List PyData)
  | [] => some []
  | d :: ds => do some ((← toP d) :: (← toPs ds))
end
def eqD (a b : D) : Option Bool := do
  let x ← toP a
  let y ← toP b
  if SeqAt.shaped x && SeqAt.shaped y then some (PyData.eqv x y) else none
def intsD : List D → Option (List Int)
  | [] => some []
  | .int i :: ds => (intsD ds).map (i :: ·)
  | _ => none
def blsD : List D → Option (List Bool)
  | [] => some []
  | .bl i :: ds => (blsD ds).map (i :: ·)
  | _ => none
def strsD : List D → Option (List Str)
  | [] => some []
  | .str i :: ds => (strsD ds).map (i :: ·)
  | _ => none
def ltD : D → D → Option Bool
  | .int a, .int b => some (decide (a < b))
  | .tup a, .tup b => do
    let x ← intsD a
    let y ← intsD b
    some (HT.lexLt x y)
  | .str a, .str b => some (decide (a.cps.toList < b.cps.toList))
  | _, _ => none
def leD : D → D → Option Bool
  | .int a, .int b => some (decide (a ≤ b))
  | _, _ => none
def flatD : D → Bool
  | .non => true | .bl _ => true | .int _ => true | .str _ => true | _ => false
def feqD : D → D → Bool
  | .non, .non => true
  | .bl a, .bl b => a == b
  | .bl a, .int b => (if a then 1 else 0) == b
  | .int a, .bl b => a == (if b then 1 else 0)
  | .int a, .int b => a == b
  | .str a, .str b => a == b
  | _, _ => false
/-- data of any depth in a tuple -/
def inDeep (x : D) (ds : List D) : Option Bool := do
  let d ← toP x
  let ys ← toPs ds
  if SeqAt.shaped d && SeqAt.shaped (.tuple ys) then some (ys.any fun z => PyData.eqv z d) else none
def inD (x : D) : D → Option Bool
  | .tup ds => if flatD x && ds.all flatD then some (ds.any fun y => feqD y x) else inDeep x ds
  | .lst ds => if flatD x && ds.all flatD then some (ds.any fun y => feqD y x) else inDeep x ds
  | _ => none
def cmpD : CmpOp → D → D → Option Bool
  | .Eq => eqD
  | .NotEq => fun a b => (eqD a b).map (!·)
  | .Lt => ltD
  | .LtE => leD
  | .Gt => fun a b => match a, b with | .int x, .int y => some (decide (y < x)) | _, _ => none
  | .GtE => fun a b => match a, b with | .int x, .int y => some (decide (y ≤ x)) | _, _ => none
  | .In => inD
  | .NotIn => fun a b => (inD a b).map (!·)
  | .Is => fun a b => match b, a with | .non, .non => some true | .non, _ => some false | .bl y, .bl x => some (decide (x = y)) | _, _ => none
  | .IsNot => fun a b => match b, a with | .non, .non => some false | .non, _ => some true | .bl y, .bl x => some (!decide (x = y)) | _, _ => none
def truD : D → Option Bool
  | .non => some false
  | .bl b => some b
  | .int i => some (i != 0)
  | .str y => if y.length ≤ sizeLine then some ((y.length : Int) != 0) else none
  | .tup ds => some (!ds.isEmpty)
  | .lst ds => some (!ds.isEmpty)
  | .dic ks => some (!ks.isEmpty)
  | _ => none
def ixD : D → D → Option D
  | .lst ds, .int i => atI ds i
  | .tup ds, .int i => atI ds i
  | .str z, .int i => if z.length ≤ sizeLine then (atI z.cps.toList i).map fun c => .str ⟨#[c]⟩ else none
  | _, _ => none
def slD : D → Option Int → Option Int → Option D
  | .lst ds, lo, hi => some (.lst (cutD ds lo hi))
  | .tup ds, lo, hi => some (.tup (cutD ds lo hi))
  | .loc ns, lo, hi => some (.lst (cutD (ns.map .int) lo hi))
  | .str z, lo, hi => if z.length ≤ sizeLine then some (.str (Txt.slice z lo hi)) else none
  | _, _, _ => none
def revD : D → Option D
  | .lst ds => some (.lst ds.reverse)
  | .tup ds => if ds.length ≤ 1000000 then some (.tup ds.reverse) else none
  | _ => none
def lenD : D → Option Nat
  | .str y => if y.length ≤ sizeLine then some y.length else none
  | .tup ds => some ds.length
  | .lst ds => some ds.length
  | .dic ks => some ks.length
  | .loc ns => some ns.length
  | _ => none
def maxI (x : Int) : List Int → Int
  | [] => x
  | y :: ys => maxI (if y > x then y else x) ys
def minI (x : Int) : List Int → Int
  | [] => x
  | y :: ys => minI (if y < x then y else x) ys
def insI (x : Int) : List Int → List Int
  | [] => [x]
  | y :: ys => if x ≤ y then x :: y :: ys else y :: insI x ys
/-- numbers in their order -/
def sortI : List Int → List Int
  | [] => []
  | x :: xs => insI x (sortI xs)
def inuI (x : Int) : List Int → List Int
  | [] => [x]
  | y :: ys => if x < y then x :: y :: ys else if x = y then y :: ys else y :: inuI x ys
/-- .. each once -/
def ssetI : List Int → List Int
  | [] => []
  | x :: xs => inuI x (ssetI xs)
def ssetD : D → Option D
  | .lst ds => (intsD ds).bind fun ns => if ns.length < 64 then some (.lst ((ssetI ns).map .int)) else none
  | _ => none
/-- the first parts of pairs, numbers -/
def fstsD : List D → Option (List Int)
  | [] => some []
  | .tup [.int i, _] :: ds => (fstsD ds).map (i :: ·)
  | _ => none
/-- the keys of a dict of pairs, in their order -/
def sdicD : D → Option D
  | .lst ds => (fstsD ds).bind fun ns => if ns.length < 64 then some (.lst ((ssetI ns).map .int)) else none
  | _ => none
/-- the built-in functions, by their names -/
def biD (f : String) : List D → Option D
  | [a] => match f with
    | "len" => (lenD a).map fun n => .int n
    | "abs" => match a with | .int i => some (.int (if i < 0 then -i else i)) | _ => none
    | "int" => match a with | .int i => some (.int i) | .bl k => some (.int (if k then 1 else 0)) | _ => none
    | "str" => match a with | .int i => if i.natAbs.log2 < 1920 then some (.str (toString i)) else none | _ => none
    | "tuple" => match a with | .lst ds => some (.tup ds) | .tup ds => some (.tup ds) | _ => none
    | "list" => match a with | .lst ds => some (.lst ds) | .tup ds => some (.lst ds) | _ => none
    | "sum" => match a with | .lst ds => (intsD ds).map fun ns => .int ns.sum | _ => none
    | "all" => match a with | .lst ds => (blsD ds).map fun ns => .bl (ns.all id) | _ => none
    | "any" => match a with | .lst ds => (blsD ds).map fun ns => .bl (ns.any id) | _ => none
    | "max" => match a with | .lst ds => (match intsD ds with | some (x :: xs) => some (.int (maxI x xs)) | _ => none) | .tup ds => (match intsD ds with | some (x :: xs) => some (.int (maxI x xs)) | _ => none) | _ => none
    | "min" => match a with | .lst ds => (match intsD ds with | some (x :: xs) => some (.int (minI x xs)) | _ => none) | .tup ds => (match intsD ds with | some (x :: xs) => some (.int (minI x xs)) | _ => none) | _ => none
    | "sorted" => match a with | .lst ds => (intsD ds).map fun ns => .lst ((sortI ns).map .int) | _ => none
    | _ => none
  | [a, b] => match f with
    | "max" => match a, b with | .int i, .int j => some (.int (if j > i then j else i)) | _, _ => none
    | "min" => match a, b with | .int i, .int j => some (.int (if j < i then j else i)) | _, _ => none
    | _ => none
  | _ => none
/-- isinstance of data with a built-in class -/
def isiD (t : String) : D → Option Bool
  | .non => some false
  | .bl _ => some (t == "bool" || t == "int")
  | .int _ => some (t == "int")
  | .str _ => some (t == "str")
  | .tup _ => some (t == "tuple")
  | .lst _ => some (t == "list")
  | _ => none
/-- a built-in class's method that changes nothing -/
def mthD (T m : String) : D → List D → Option D
  | .dic ks, [.str x, d] => if T == "dict" && m == "get" then some (((ks.lookup (Sum.inr x : Key)).getD d)) else none
  | .dic ks, [.int x, d] => if T == "dict" && m == "get" then some (((ks.lookup (Sum.inl x : Key)).getD d)) else none
  | _, _ => none

/-! ### terms -/
/-- what a for or a comprehension stores to -/
inductive Tg where
  | nm (i : Nat) | tp (ts : List Nat) | tt (ts : List (Nat ⊕ List Nat))
mutual
inductive E where
  | lit (d : D) | var (i : Nat) | glob (x : Str)
  | bin (op : Operator) (a b : E) | cmp (op : CmpOp) (a b : E) | chn (o1 o2 : CmpOp) (a b c : E)
  | not (a : E) | neg (a : E) | con (es : Es) | dis (es : Es) | ife (c a b : E)
  | tup (es : Es) | lst (es : Es) | ix (a b : E) | sl (a : E) (lo hi : Eo) | rev (a : E)
  | call (f : Str) (es : Es) | bi (f : String) (es : Es) | isi (a : E) (t : String) | mth (T m : String) (a : E) (es : Es)
  | lc (x : E) (tg : Tg) (it : It) (c : Eo) (own : List (Str × Nat))
  | lc2 (x : E) (tg : Tg) (it : It) (c : Eo) (tg1 : Tg) (it1 : It) (c1 : Eo) (own : List (Str × Nat)) (vs1 : List Nat)
  | sset (a : E) | sdic (a : E)
  | bor (i : Nat) (e : E)
  | oix (a b : E) | olen (a : E) | onew (es : Es) | olist (a : E) | om (m : String) (a e : E)
  | fld (c x : Str) (a : E) | mcl (c m : Str) (a : E) (es : Es) | mk (c : Str) (es : Es) | otup (a : E)
inductive Es where
  | nil | cons (e : E) (es : Es)
inductive Eo where
  | none | some (e : E)
inductive It where
  | sq (e : E) | r1 (a : E) | r2 (a b : E) | r3 (a b c : E) | en (e : E)
end
/-- a list made anew, for a slot of one's own -/
inductive Fr where
  | dsp (es : Es) | lc (x : E) (tg : Tg) (it : It) (c : Eo) (own : List (Str × Nat)) | lo (e : E) | cat (a b : E)
/-- what an except suite does: a name is given the exception's place, or data; data is returned -/
inductive Hd where
  | fld (i j : Nat) | set (j : Nat) (d : D) | ret (d : D)
mutual
inductive S where
  | rse (c : Str) (e : E) | trye (b : Ss) (c : Str) (h : Hd)
  | set (i : Nat) (e : E) | new (i : Nat) (f : Fr) | tup (ts : List Nat) (e : E) | tgt (tg : Tg) (e : E) | par (ts : List Nat) (es : List (E ⊕ Fr))
  | aug (i : Nat) (op : Operator) (e : E) | app (i : Nat) (e : E) | ext (i : Nat) (e : E) | put (i : Nat) (k e : E) | oput (a k e : E) | fput (c x : Str) (a e : E) | tfld (c : Str) (a : E) (xs : List Str) (e : E) | faug (c x : Str) (op : Operator) (a e : E)
  | ret (e : E) | ret0 | mv (i : Nat) | ife (c : E) (a b : Ss) | whl (c : E) (b : Ss) | for_ (tg : Tg) (it : It) (b : Ss)
  | exp (e : E) | pass | brk | cnt
inductive Ss where
  | nil | cons (s : S) (r : Ss) | frz (i : Nat) (r : Ss)
end

/-! ### meaning -/
def getD' (env : Env) (i : Nat) : Option D := match env[i]? with
  | some (.v d) => some d
  | _ => none
mutual
def noL : D → Bool
  | .tup ds => noLs ds
  | .lst _ => false | .dic _ => false | .loc _ => false
  | _ => true
def noLs : List D → Bool
  | [] => true
  | d :: ds => noL d && noLs ds
end
def noLO : Ob → Bool
  | .ins _ fs => noLs (fs.map (·.2))
  | .ls ds => noLs ds
  | .dk ks => noLs (ks.map (·.2))
def wipeE (env : Env) : List Nat → Env
  | [] => env
  | v :: vs => (wipeE env vs).set v .un
def setTs : List Nat → List D → Env → Option Env
  | [], [], env => some env
  | i :: is, d :: ds, env => setTs is ds (env.set i (.v d))
  | _, _, _ => none
def setT1 : Nat ⊕ List Nat → D → Env → Option Env
  | .inl i, d, env => some (env.set i (.v d))
  | .inr ts, .tup ds, env => if ds.length = ts.length then setTs ts ds env else none
  | _, _, _ => none
def setTt : List (Nat ⊕ List Nat) → List D → Env → Option Env
  | [], [], env => some env
  | t :: ts, d :: ds, env => (setT1 t d env).bind (setTt ts ds)
  | _, _, _ => none
def setTg : Tg → D → Env → Option Env
  | .nm i, d, env => some (env.set i (.v d))
  | .tp ts, .tup ds, env => if ds.length = ts.length then setTs ts ds env else none
  | .tt ts, .tup ds, env => if ds.length = ts.length then setTt ts ds env else none
  | _, _, _ => none
def rangeD (lo : Int) (n : Nat) (c : Int) : List D := (List.range n).map fun (i : Nat) => D.int (lo + (i : Nat) * c)
def enumD (ds : List D) : List D := ds.zipIdx.map fun p => D.tup [.int (p.2 : Nat), p.1]
def smallI (a : Int) : Bool := decide (a.natAbs < 4611686018427387904)
theorem smallI_ok {a : Int} (h : smallI a = true) : -(2 ^ 62) ≤ a ∧ a < 2 ^ 62 := by
  have := of_decide_eq_true h
  have : (2:Int)^62 = 4611686018427387904 := by decide
  omega

/-- an object that is an instance of c: its fields -/
def insO (o : Obs) (c : Str) : D → Option (List (Str × D))
  | .obj n => match o[n]? with
    | some (.ins c' fs) => if c' = c then some fs else none
    | _ => none
  | _ => none
def putD (x : Str) (d : D) : List (Str × D) → List (Str × D)
  | [] => [(x, d)]
  | (y, e) :: r => if y = x then (y, d) :: r else (y, e) :: putD x d r
def setIns (o : Obs) (c : Str) (y : D) (fs : List (Str × D)) : Obs := match y with
  | .obj n => o.set n (.ins c fs)
  | _ => o
def mthQ (c m : Str) : Str := c ++ ("." : Str) ++ m
/-- an object that is a list -/
def lsO (o : Obs) : D → Option (List D)
  | .obj n => match o[n]? with
    | some (.ls ds) => some ds
    | _ => none
  | _ => none
def setO (o : Obs) : D → List D → Obs
  | .obj n, ds => o.set n (.ls ds)
  | _, _ => o
/-- a shared list's methods -/
def omD (m : String) (o : Obs) (x a : D) : Option (D × Obs) := match lsO o x with
  | none => none
  | some ds => if m == "append" then (if ds.length < sizeLine then some (.non, setO o x (ds ++ [a])) else none)
    else if m == "extend" then (match a with
      | .lst es => if ds.length + es.length ≤ sizeLine then some (.non, setO o x (ds ++ es)) else none
      | _ => none)
    else if m == "pop" then (match a with
      | .int i => if decide (-(2 ^ 63) ≤ i ∧ i < 2 ^ 63) then (match seqIndex? i ds.length with
        | some k => (ds[k]?).map fun y => (y, setO o x (ds.eraseIdx k))
        | none => none) else none
      | _ => none)
    else none
section
variable (Φ : Str → List D → Obs → R D) (G : Str → Option D)
/-- the list of a comprehension, item by item -/
def lcD (own : List Nat) (tg : Tg) (t : Env → Obs → R Bool) (x : Env → Obs → R D) (env : Env) : List D → List D → Obs → R (List D)
  | [], acc, o => .ok acc o
  | d :: ds, acc, o => match setTg tg d (wipeE env own) with
    | none => .bad
    | some env' => (t env' o).noex.bind fun b o => if b then (x env' o).noex.bind fun y o => if acc.length < sizeLine then lcD own tg t x env ds (acc ++ [y]) o else .bad else lcD own tg t x env ds acc o
/-- .. of one with two fors -/
def lc2D (own vs1 : List Nat) (tg : Tg) (t : Env → Obs → R Bool) (it1 : Env → Obs → R (List D)) (tg1 : Tg) (t1 : Env → Obs → R Bool) (x : Env → Obs → R D) (env : Env) : List D → List D → Obs → R (List D)
  | [], acc, o => .ok acc o
  | d :: ds, acc, o => match setTg tg d (wipeE env own) with
    | none => .bad
    | some env' => (t env' o).noex.bind fun b o => if b then (it1 env' o).noex.bind fun es o => (lcD vs1 tg1 t1 x env' es acc o).bind fun acc o => lc2D own vs1 tg t it1 tg1 t1 x env ds acc o else lc2D own vs1 tg t it1 tg1 t1 x env ds acc o
/-- an expression's meaning: as a value, as a test -/
structure PR where
  v : Env → Obs → R D
  t : Env → Obs → R Bool
def mkP (v : Env → Obs → R D) : PR := ⟨v, fun env o => (v env o).bind fun x o => R.opt o (truD x)⟩
/-- the same, of a row of and, of or -/
structure PRs where
  v : Env → Obs → R (List D)
  cv : Env → Obs → R D
  dv : Env → Obs → R D
  ct : Env → Obs → R Bool
  dt : Env → Obs → R Bool
mutual
def denP : E → PR
  | .lit d => mkP fun _ o => .ok d o
  | .var i => mkP fun env o => R.opt o (getD' env i)
  | .glob x => mkP fun _ o => R.opt o (G x)
  | .bin op a b => mkP fun env o => ((denP a).v env o).bind fun x o => ((denP b).v env o).bind fun y o => R.opt o (binD op x y)
  | .cmp op a b => mkP fun env o => ((denP a).v env o).bind fun x o => ((denP b).v env o).bind fun y o => R.opt o ((cmpD op x y).map .bl)
  | .chn o1 o2 a b c => mkP fun env o => ((denP a).v env o).bind fun x o => ((denP b).v env o).bind fun y o => match cmpD o1 x y with
    | some true => ((denP c).v env o).bind fun z o => R.opt o ((cmpD o2 y z).map .bl)
    | some false => .ok (.bl false) o
    | none => .bad
  | .not a => ⟨fun env o => ((denP a).v env o).bind fun x o => match x with | .bl b => .ok (.bl (!b)) o | _ => .bad, fun env o => ((denP a).t env o).map (!·)⟩
  | .neg a => mkP fun env o => ((denP a).v env o).bind fun x o => match x with | .int i => .ok (.int (-i)) o | _ => .bad
  | .con es => ⟨(denPs' es).cv, (denPs' es).ct⟩
  | .dis es => ⟨(denPs' es).dv, (denPs' es).dt⟩
  | .ife c a b => ⟨fun env o => ((denP c).t env o).bind fun k o => if k then (denP a).v env o else (denP b).v env o, fun env o => ((denP c).t env o).bind fun k o => if k then (denP a).t env o else (denP b).t env o⟩
  | .tup es => mkP fun env o => ((denPs' es).v env o).bind fun ds o => if ds.length ≤ sizeLine then .ok (.tup ds) o else .bad
  | .lst es => mkP fun env o => ((denPs' es).v env o).bind fun ds o => if ds.length ≤ sizeLine then .ok (.lst ds) o else .bad
  | .ix a b => mkP fun env o => ((denP a).v env o).bind fun x o => ((denP b).v env o).bind fun y o => R.opt o (ixD x y)
  | .sl a lo hi => mkP fun env o => ((denP a).v env o).bind fun x o => (denO lo env o).bind fun l o => (denO hi env o).bind fun h o => R.opt o (slD x l h)
  | .rev a => mkP fun env o => ((denP a).v env o).bind fun x o => R.opt o (revD x)
  | .call f es => mkP fun env o => ((denPs' es).v env o).bind fun ds o => Φ f ds o
  | .bi f es => mkP fun env o => ((denPs' es).v env o).bind fun ds o => R.opt o (biD f ds)
  | .isi a t => mkP fun env o => ((denP a).v env o).bind fun x o => R.opt o ((isiD t x).map .bl)
  | .mth T m a es => mkP fun env o => ((denP a).v env o).bind fun x o => ((denPs' es).v env o).bind fun ds o => R.opt o (mthD T m x ds)
  | .lc x tg it c own => mkP fun env o => ((denI it env o).bind fun ds o => lcD (own.map (·.2)) tg (denC c) (denP x).v env ds [] o).map .lst
  | .lc2 x tg it c tg1 it1 c1 own vs1 => mkP fun env o => ((denI it env o).bind fun ds o => lc2D (own.map (·.2)) vs1 tg (denC c) (denI it1) tg1 (denC c1) (denP x).v env ds [] o).map .lst
  | .sset a => mkP fun env o => ((denP a).v env o).bind fun x o => R.opt o (ssetD x)
  | .sdic a => mkP fun env o => ((denP a).v env o).bind fun x o => R.opt o (sdicD x)
  | .bor i e => ⟨fun env o => match env[i]? with
    | some (.ol ds) => ((denP e).v (env.set i (.v (.lst ds))) o).noex.bind fun d o => if noL d && o.all noLO then .ok d o else .bad
    | _ => .bad, fun env o => match env[i]? with
    | some (.ol ds) => ((denP e).t (env.set i (.v (.lst ds))) o).noex.bind fun d o => if true && o.all noLO then .ok d o else .bad
    | _ => .bad⟩
  | .oix a b => mkP fun env o => ((denP a).v env o).bind fun x o => ((denP b).v env o).bind fun y o => R.opt o (match y with | .int i => (lsO o x).bind fun ds => atI ds i | _ => none)
  | .olen a => mkP fun env o => ((denP a).v env o).bind fun x o => R.opt o ((lsO o x).map fun ds => .int ds.length)
  | .onew es => mkP fun env o => ((denPs' es).v env o).bind fun ds o => if ds.length ≤ sizeLine then .ok (.obj o.length) (o ++ [.ls ds]) else .bad
  | .olist a => mkP fun env o => ((denP a).v env o).bind fun x o => match x with | .lst ds => .ok (.obj o.length) (o ++ [.ls ds]) | .tup ds => .ok (.obj o.length) (o ++ [.ls ds]) | _ => .bad
  | .otup a => mkP fun env o => ((denP a).v env o).bind fun x o => R.opt o ((lsO o x).map .tup)
  | .fld c x a => mkP fun env o => ((denP a).v env o).bind fun y o => R.opt o ((insO o c y).bind fun fs => fs.lookup x)
  | .mcl c m a es => mkP fun env o => ((denP a).v env o).bind fun y o => match insO o c y with
    | some fs => if (fs.lookup m).isSome then .bad else ((denPs' es).v env o).bind fun ds o => Φ (mthQ c m) (y :: ds) o
    | none => .bad
  | .mk c es => mkP fun env o => ((denPs' es).v env o).bind fun ds o => (Φ (mthQ c "__init__") (.obj o.length :: ds) (o ++ [.ins c []])).bind fun r o2 => match r with
    | .non => .ok (.obj o.length) o2
    | _ => .bad
  | .om m a e => mkP fun env o => ((denP a).v env o).bind fun x o => match lsO o x with | none => .bad | some _ => ((denP e).v env o).bind fun d o => match omD m o x d with | some y => .ok y.1 y.2 | none => .bad
  termination_by structural e => e
def denPs' : Es → PRs
  | .nil => ⟨fun _ o => .ok [] o, fun _ _ => .bad, fun _ _ => .bad, fun _ _ => .bad, fun _ _ => .bad⟩
  | .cons e r => ⟨fun env o => ((denP e).v env o).bind fun x o => ((denPs' r).v env o).bind fun xs o => .ok (x :: xs) o,
    fun env o => match r with
      | .nil => (denP e).v env o
      | .cons _ _ => ((denP e).v env o).bind fun x o => match x with | .bl true => (denPs' r).cv env o | .bl false => .ok (.bl false) o | _ => .bad,
    fun env o => match r with
      | .nil => (denP e).v env o
      | .cons _ _ => ((denP e).v env o).bind fun x o => match x with | .bl false => (denPs' r).dv env o | .bl true => .ok (.bl true) o | _ => .bad,
    fun env o => match r with
      | .nil => (denP e).t env o
      | .cons _ _ => ((denP e).t env o).bind fun k o => if k then (denPs' r).ct env o else .ok false o,
    fun env o => match r with
      | .nil => (denP e).t env o
      | .cons _ _ => ((denP e).t env o).bind fun k o => if k then .ok true o else (denPs' r).dt env o⟩
  termination_by structural es => es
def denO : Eo → Env → Obs → R (Option Int)
  | .none, _, o => .ok none o
  | .some e, env, o => ((denP e).v env o).bind fun x o => match x with | .int i => .ok (some i) o | _ => .bad
  termination_by structural e => e
def denC : Eo → Env → Obs → R Bool
  | .none, _, o => .ok true o
  | .some e, env, o => (denP e).t env o
  termination_by structural e => e
def denI : It → Env → Obs → R (List D)
  | .sq e, env, o => ((denP e).v env o).bind fun x o => match x with | .lst ds => .ok ds o | .tup ds => .ok ds o | _ => .bad
  | .r1 a, env, o => ((denP a).v env o).bind fun x o => match x with | .int n => if smallI n then .ok (rangeD 0 n.toNat 1) o else .bad | _ => .bad
  | .r2 a b, env, o => ((denP a).v env o).bind fun x o => ((denP b).v env o).bind fun y o => match x, y with | .int i, .int j => if smallI i && smallI j then .ok (rangeD i (j - i).toNat 1) o else .bad | _, _ => .bad
  | .r3 a b c, env, o => ((denP a).v env o).bind fun x o => ((denP b).v env o).bind fun y o => ((denP c).v env o).bind fun z o => match x, y, z with
    | .int i, .int j, .int k => if Builtin.Range.small i j k && decide (k ≠ 0 ∧ k.natAbs < 1073741824 ∧ 0 ≤ Builtin.Range.rangeSize i j k) then .ok (rangeD i (Builtin.Range.rangeSize i j k).toNat k) o else .bad
    | _, _, _ => .bad
  | .en e, env, o => ((denP e).v env o).bind fun x o => match x with | .lst ds => .ok (enumD ds) o | .tup ds => .ok (enumD ds) o | _ => .bad
  termination_by structural e => e
end
def denE (e : E) : Env → Obs → R D := (denP Φ G e).v
def denT (e : E) : Env → Obs → R Bool := (denP Φ G e).t
def denEs (es : Es) : Env → Obs → R (List D) := (denPs' Φ G es).v
def denCon (es : Es) : Env → Obs → R D := (denPs' Φ G es).cv
def denDis (es : Es) : Env → Obs → R D := (denPs' Φ G es).dv
def denTC (es : Es) : Env → Obs → R Bool := (denPs' Φ G es).ct
def denTD (es : Es) : Env → Obs → R Bool := (denPs' Φ G es).dt
def denF : Fr → Env → Obs → R (List D)
  | .dsp es, env, o => (denEs Φ G es env o).bind fun ds o => if ds.length ≤ sizeLine then .ok ds o else .bad
  | .lc x tg it c own, env, o => (denI Φ G it env o).bind fun ds o => lcD (own.map (·.2)) tg (denC Φ G c) (denE Φ G x) env ds [] o
  | .lo e, env, o => (denE Φ G e env o).bind fun x o => match x with | .lst ds => .ok ds o | .tup ds => .ok ds o | _ => .bad
  | .cat a b, env, o => (denE Φ G a env o).bind fun x o => (denE Φ G b env o).bind fun y o => match x, y with | .lst p, .lst q => if p.length + q.length ≤ sizeLine then .ok (p ++ q) o else .bad | _, _ => .bad
/-- parts of a parallel store: data, or a list of one's own -/
def denPs : List (E ⊕ Fr) → Env → Obs → R (List Sl)
  | [], _, o => .ok [] o
  | .inl e :: r, env, o => (denE Φ G e env o).bind fun x o => (denPs r env o).bind fun xs o => .ok (.v x :: xs) o
  | .inr f :: r, env, o => (denF Φ G f env o).bind fun x o => (denPs r env o).bind fun xs o => .ok (.ol x :: xs) o
def setSl : List Nat → List Sl → Env → Option Env
  | [], [], env => some env
  | i :: is, s :: ss, env => setSl is ss (env.set i s)
  | _, _, _ => none
def R.st {α : Type} (env : Env) (x : R α) (f : α → Obs → RS) : RS := match x with
  | .ok a o => f a o
  | .ex c a o => .ex c a env o
  | .bad => .bad
def RS.seq (x : RS) (f : Env → Obs → RS) : RS := match x with
  | .nx e o => f e o
  | y => y
@[simp] theorem R.st_ok {α : Type} (env : Env) (a : α) (o : Obs) (f : α → Obs → RS) : (R.ok a o).st env f = f a o := (rfl)
@[simp] theorem R.st_bad {α : Type} (env : Env) (f : α → Obs → RS) : (R.bad : R α).st env f = .bad := (rfl)
@[simp] theorem R.st_ex {α : Type} (env : Env) (c : Str) (a : D) (o : Obs) (f : α → Obs → RS) : (R.ex c a o : R α).st env f = .ex c a env o := (rfl)
@[simp] theorem RS.seq_nx (e : Env) (o : Obs) (f : Env → Obs → RS) : (RS.nx e o).seq f = f e o := (rfl)
@[simp] theorem RS.seq_rt (d : D) (o : Obs) (f : Env → Obs → RS) : (RS.rt d o).seq f = .rt d o := (rfl)
@[simp] theorem RS.seq_bk (e : Env) (o : Obs) (f : Env → Obs → RS) : (RS.bk e o).seq f = .bk e o := (rfl)
@[simp] theorem RS.seq_ct (e : Env) (o : Obs) (f : Env → Obs → RS) : (RS.ct e o).seq f = .ct e o := (rfl)
@[simp] theorem RS.seq_bad (f : Env → Obs → RS) : RS.bad.seq f = .bad := (rfl)
@[simp] theorem RS.seq_ex (c : Str) (a : D) (e : Env) (o : Obs) (f : Env → Obs → RS) : (RS.ex c a e o).seq f = .ex c a e o := (rfl)
/-- a while, so many turns at most -/
def whileD (c : Env → Obs → R Bool) (b : Env → Obs → RS) : Nat → Env → Obs → RS
  | 0, _, _ => .bad
  | n + 1, env, o => (c env o).st env fun k o => if k then (match b env o with
    | .nx e o => whileD c b n e o
    | .ct e o => whileD c b n e o
    | .bk e o => .nx e o
    | y => y) else .nx env o
def forD (tg : Tg) (b : Env → Obs → RS) : List D → Env → Obs → RS
  | [], env, o => .nx env o
  | d :: ds, env, o => match setTg tg d env with
    | none => .bad
    | some env => match b env o with
      | .nx e o => forD tg b ds e o
      | .ct e o => forD tg b ds e o
      | .bk e o => .nx e o
      | y => y
def denHd : Hd → D → Env → Obs → RS
  | .fld i j, .int k, env, o => if i < env.length then .nx (((env.set i .un).set j (.v (.int k))).set i .un) o else .bad
  | .fld _ _, _, _, _ => .bad
  | .set j d, _, env, o => .nx (env.set j (.v d)) o
  | .ret d, _, _, o => .rt d o
/-- the exceptions of one class are caught, others are not followed -/
def tryD (c : Str) (h : Hd) : RS → RS
  | .ex c' a e o => if c' = c then denHd h a e o else .bad
  | y => y
/-- fields of one object stored, one after another -/
def fputsD (c : Str) (ev : Env → Obs → R D) : List Str → List D → Env → Obs → RS
  | [], [], env, o => .nx env o
  | x :: xs, d :: ds, env, o => (ev env o).st env fun y o => match insO o c y with
    | some fs => if fs.length < 1000 then fputsD c ev xs ds env (setIns o c y (putD x d fs)) else .bad
    | none => .bad
  | _, _, _, _ => .bad
def addI : Operator → Int → Int → Option Int
  | .Add, i, j => some (i + j)
  | .Sub, i, j => some (i - j)
  | _, _, _ => none
def raiseD (c : Str) (env : Env) (x : D) (o : Obs) : RS := match x with
  | .int i => if i.natAbs < 1000000 then .ex c (.int i) env o else .bad
  | _ => .bad
variable (N : Nat)
mutual
def denS : S → Env → Obs → RS
  | .rse c e, env, o => (denE Φ G e env o).st env (raiseD c env)
  | .trye b c h, env, o => tryD c h (denSs b env o)
  | .set i e, env, o => (denE Φ G e env o).st env fun x o => .nx (env.set i (.v x)) o
  | .new i f, env, o => (denF Φ G f env o).st env fun x o => .nx (env.set i (.ol x)) o
  | .tup ts e, env, o => (denE Φ G e env o).st env fun x o => match setTg (.tp ts) x env with | some env => .nx env o | none => .bad
  | .tgt tg e, env, o => (denE Φ G e env o).st env fun x o => match setTg tg x env with | some env => .nx env o | none => .bad
  | .par ts es, env, o => (denPs Φ G es env o).st env fun xs o => match setSl ts xs env with | some env => .nx env o | none => .bad
  | .aug i op e, env, o => match env[i]? with
    | some (.v x) => (denE Φ G e env o).st env fun y o => match augD op x y with
      | some z => .nx (env.set i (.v z)) o
      | none => .bad
    | _ => .bad
  | .app i e, env, o => match env[i]? with
    | some (.ol ds) => (denE Φ G e env o).st env fun x o => if ds.length < sizeLine then .nx (env.set i (.ol (ds ++ [x]))) o else .bad
    | _ => .bad
  | .ext i e, env, o => match env[i]? with
    | some (.ol ds) => (denE Φ G e env o).st env fun x o => match x with
      | .lst es => if ds.length + es.length ≤ sizeLine then .nx (env.set i (.ol (ds ++ es))) o else .bad
      | _ => .bad
    | _ => .bad
  | .put i k e, env, o => match env[i]? with
    | some (.ol ds) => (denE Φ G e env o).st env fun x o => (denE Φ G k env o).st env fun y o => match y with
      | .int j => match ixN ds.length j with
        | some n => .nx (env.set i (.ol (ds.set n x))) o
        | none => .bad
      | _ => .bad
    | _ => .bad
  | .oput a k e, env, o => (denE Φ G e env o).st env fun x o => (denE Φ G a env o).st env fun y o => (denE Φ G k env o).st env fun z o => match z with
    | .int j => match lsO o y with
      | some ds => match ixN ds.length j with
        | some n => .nx env (setO o y (ds.set n x))
        | none => .bad
      | none => .bad
    | _ => .bad
  | .fput c x a e, env, o => (denE Φ G e env o).st env fun d o => (denE Φ G a env o).st env fun y o => match insO o c y with
    | some fs => if fs.length < 1000 then .nx env (setIns o c y (putD x d fs)) else .bad
    | none => .bad
  | .tfld c a xs e, env, o => (denE Φ G e env o).st env fun x o => match x with
    | .tup ds => if ds.length = xs.length then fputsD c (denE Φ G a) xs ds env o else .bad
    | _ => .bad
  | .faug c x op a e, env, o => (denE Φ G a env o).st env fun y o => match (insO o c y).bind fun fs => fs.lookup x with
    | some (.int i) => (denE Φ G e env o).st env fun d o => match d with
      | .int j => match addI op i j with
        | some k => match insO o c y with
          | some fs => if fs.length < 1000 then .nx env (setIns o c y (putD x (.int k) fs)) else .bad
          | none => .bad
        | none => .bad
      | _ => .bad
    | _ => .bad
  | .ret e, env, o => (denE Φ G e env o).st env fun x o => .rt x o
  | .ret0, _, o => .rt .non o
  | .mv i, env, o => match env[i]? with
    | some (.ol ds) => .rt (.lst ds) o
    | _ => .bad
  | .ife c a b, env, o => (denT Φ G c env o).st env fun k o => if k then denSs a env o else denSs b env o
  | .whl c b, env, o => whileD (denT Φ G c) (denSs b) N env o
  | .for_ tg it b, env, o => (denI Φ G it env o).st env fun ds o => forD tg (denSs b) ds env o
  | .exp e, env, o => (denE Φ G e env o).st env fun _ o => .nx env o
  | .pass, env, o => .nx env o
  | .brk, env, o => .bk env o
  | .cnt, env, o => .ct env o
  termination_by structural s => s
def denSs : Ss → Env → Obs → RS
  | .nil, env, o => .nx env o
  | .cons s r, env, o => (denS s env o).seq fun env o => denSs r env o
  | .frz i r, env, o => match env[i]? with
    | some (.ol ds) => denSs r (env.set i (.v (.lst ds))) o
    | _ => denSs r env o
  termination_by structural s => s
end
end
/-! ### programs -/
structure Fn where
  ps : Nat
  sl : Nat
  body : Ss
def runFn (f : Fn) (Φ : Str → List D → Obs → R D) (G : Str → Option D) (N : Nat) (ds : List D) (o : Obs) : R D :=
  if ds.length = f.ps then match denSs Φ G N f.body (ds.map .v ++ List.replicate (f.sl - f.ps) .un) o with
    | .rt d o => .ok d o
    | .nx _ o => .ok .non o
    | .ex c a _ o => .ex c a o
    | _ => .bad
  else .bad
/-- a program: its defs, those whose meaning is given, its constants -/
structure Pg where
  fn : List (Str × Fn)
  ms : List (Str × Fn)
  gl : List (Str × D)
def Pg.call (P : Pg) (N : Nat) : Nat → Str → List D → Obs → R D
  | 0, _, _, _ => .bad
  | n + 1, f, ds, o => match P.fn.lookup f with
    | some e => runFn e (P.call N n) (fun x => P.gl.lookup x) N ds o
    | none => match P.ms.lookup f with
      | some e => runFn e (P.call N n) (fun x => P.gl.lookup x) N ds o
      | none => .bad
end Mp

set_option Elab.async false
set_option linter.all false
set_option maxRecDepth 100000
/-! The operators over data are the model's. -/
namespace Mp
open PySem PySem.Spec PyProof.Rows L2

section
variable {K : PySem.W.Frag} {CA : Str → Option Addr} {W : Wd} {H : Hp} {obs : Obs} {env : Env} {σ : L2.St}

theorem SRel.fh (S : SRel K CA W σ H env obs) : ∀ p o, W.F p = some o → H p = some o := fun p o h => S.h.fro p o (Wd.F_of.mp h)
theorem SRel.tup (S : SRel K CA W σ H env obs) {v : V} {ds : List D} (h : W.rep K v (.tup ds)) : ∃ p vs, v = .ref p ∧ SqT K H p vs ∧ W.reps K vs ds := by
  obtain ⟨p, vs, e, q, r⟩ := h.to_tup
  exact ⟨p, vs, e, SqT.mono q S.fh, r⟩
theorem SRel.lst (S : SRel K CA W σ H env obs) {v : V} {ds : List D} (h : W.rep K v (.lst ds)) : ∃ p vs, v = .ref p ∧ H p = some (.lst vs) ∧ W.reps K vs ds := by
  obtain ⟨p, vs, e, q, r⟩ := h.to_lst
  exact ⟨p, vs, e, S.fh _ _ q, r⟩
/-- a two-place operation is g over data -/
def Op2 (K : PySem.W.Frag) (CA : Str → Option Addr) (r : R2) (g : D → D → Option D) : Prop :=
  ∀ (W : Wd) (σ : L2.St) (H : Hp) (env : Env) (obs : Obs) (x y : V) (a b d : D) (Q : V → Hp → Prop), SRel K CA W σ H env obs → W.rep K x a → W.rep K y b → g a b = some d →
    (∀ v W' H', W.leE W' H H' → SRel K CA W' σ H' env obs → W'.rep K v d → Q v H') → r x y H Q
/-- a call by values is g over data -/
def Op1 (K : PySem.W.Frag) (CA : Str → Option Addr) (r : List V → Hp → VK → Prop) (g : List D → Option D) : Prop :=
  ∀ (W : Wd) (σ : L2.St) (H : Hp) (env : Env) (obs : Obs) (xs : List V) (as : List D) (d : D) (Q : V → Hp → Prop), SRel K CA W σ H env obs → W.reps K xs as → g as = some d →
    (∀ v W' H', W.leE W' H H' → SRel K CA W' σ H' env obs → W'.rep K v d → Q v H') → r xs H Q
end

/-! ### arithmetic -/
section
variable {X : Cx} {CA : Str → Option Addr}
theorem natAbs_lt {a : Int} (h : a.natAbs < 2 ^ 64) : -(2 ^ 64) < a ∧ a < 2 ^ 64 := by
  have : (2:Nat)^64 = 18446744073709551616 := by decide
  have : (2:Int)^64 = 18446744073709551616 := by decide
  omega
theorem add_ok : ∃ r, OpR X (binaryOp .Add) r ∧ Op2 X.K CA r addD := by
  refine ⟨_, OpR.or op_add (OpR.or op_add_str (OpR.or op_catA op_cat)), ?_⟩
  intro W σ H env obs x y a b d Q S rx ry e q
  unfold addD at e
  split at e
  · cases e; cases rx; cases ry
    exact .inl ⟨_, _, rfl, rfl, q _ W H .refl S (.int _)⟩
  · split at e
    · rename_i h; cases e; cases rx; cases ry
      exact .inr (.inl ⟨_, _, rfl, rfl, h, q _ W H .refl S (.str _)⟩)
    · cases e
  · split at e
    · rename_i u w h; cases e
      obtain ⟨p, vs, rfl, h1, r1⟩ := S.tup rx
      obtain ⟨p2, us, rfl, h2, r2⟩ := S.tup ry
      refine .inr (.inr (.inl ⟨p, p2, vs, us, rfl, rfl, h1, h2, by rw [r1.length, r2.length]; exact h, fun z => ?_, fun _ z => ?_, fun _ _ => GP.tup S q (r1.append r2)⟩))
      · subst z; cases r1; exact q _ W H .refl S ry
      · subst z; cases r2; rw [List.append_nil] at q; exact q _ W H .refl S rx
    · cases e
  · split at e
    · rename_i u w h; cases e
      obtain ⟨p, vs, rfl, h1, r1⟩ := S.lst rx
      obtain ⟨p2, us, rfl, h2, r2⟩ := S.lst ry
      exact .inr (.inr (.inr ⟨p, p2, vs, us, rfl, rfl, h1, h2, by rw [r1.length, r2.length]; exact h, GP.lst S q (r1.append r2)⟩))
    · cases e
  · cases e
theorem sub_ok : ∃ r, OpR X (binaryOp .Sub) r ∧ Op2 X.K CA r subD := by
  refine ⟨_, op_sub, ?_⟩
  intro W σ H env obs x y a b d Q S rx ry e q
  unfold subD at e
  split at e
  · cases e; cases rx; cases ry
    exact ⟨_, _, rfl, rfl, q _ W H .refl S (.int _)⟩
  · cases e
theorem div_ok : ∃ r, OpR X (binaryOp .FloorDiv) r ∧ Op2 X.K CA r divD := by
  refine ⟨_, OpR.or op_fdivN op_fdivW, ?_⟩
  intro W σ H env obs x y a b d Q S rx ry e q
  unfold divD at e
  split at e
  · split at e
    · rename_i i j h; cases e; cases rx; cases ry
      rw [Bool.or_eq_true] at h
      rcases h with h | h
      · exact .inl ⟨_, _, rfl, rfl, (by have := of_decide_eq_true h; exact this), q _ W H .refl S (.int _)⟩
      · have h := of_decide_eq_true h
        rw [Int.fdiv_eq_ediv_of_nonneg _ (by omega)] at q
        exact .inr ⟨_, _, rfl, rfl, h, q _ W H .refl S (.int _)⟩
    · cases e
  · cases e
theorem mod_ok : ∃ r, OpR X (binaryOp .Mod) r ∧ Op2 X.K CA r modD := by
  refine ⟨_, op_modN, ?_⟩
  intro W σ H env obs x y a b d Q S rx ry e q
  unfold modD at e
  split at e
  · split at e
    · cases e
    · rename_i h; cases e; cases rx; cases ry
      exact ⟨_, _, rfl, rfl, h, q _ W H .refl S (.int _)⟩
  · cases e
theorem pow_ok : ∃ r, OpR X (binaryOp .Pow) r ∧ Op2 X.K CA r powD := by
  refine ⟨_, op_pow, ?_⟩
  intro W σ H env obs x y a b d Q S rx ry e q
  unfold powD at e
  split at e
  · split at e
    · rename_i h; cases e; cases rx; cases ry
      exact ⟨_, _, rfl, rfl, (by have := of_decide_eq_true h; exact this), q _ W H .refl S (.int _)⟩
    · cases e
  · cases e
theorem shl_ok : ∃ r, OpR X (binaryOp .LShift) r ∧ Op2 X.K CA r shlD := by
  refine ⟨_, op_shl, ?_⟩
  intro W σ H env obs x y a b d Q S rx ry e q
  unfold shlD at e
  split at e
  · split at e
    · rename_i h; cases e; cases rx; cases ry
      exact ⟨_, _, rfl, rfl, (by have := of_decide_eq_true h; exact this), q _ W H .refl S (.int _)⟩
    · cases e
  · cases e
end

/-! ### comparisons -/
section
variable {K : PySem.W.Frag} {F H : Hp} {A : List Addr}
mutual
theorem Rep.dp (hf : ∀ p o, F p = some o → H p = some o) : ∀ {d : D} {v : V} {x : PyData}, Rep K F A v d → toP d = some x → Dp K H v x
  | .non, _, _, .non, e => by simp [toP] at e; subst e; exact .non
  | .bl _, _, _, .bl _, e => by simp [toP] at e; subst e; exact .bl _
  | .int _, _, _, .int _, e => by simp [toP] at e; subst e; exact .int _
  | .str _, _, _, .str _, e => by simp [toP] at e; subst e; exact .str _
  | .ty _, _, _, .ty _, e => by simp [toP] at e
  | .tup ds, _, _, .tup h r, e => by
    simp only [toP, Option.map_eq_some_iff] at e
    obtain ⟨z, e1, rfl⟩ := e
    exact .tup (SqT.mono h hf) (Reps.dp hf r e1)
  | .lst ds, _, _, .lst h r, e => by
    simp only [toP, Option.map_eq_some_iff] at e
    obtain ⟨z, e1, rfl⟩ := e
    exact .lst (SqL.of (hf _ _ h)) (Reps.dp hf r e1)
  | .dic _, _, _, .dic _ _ _, e => by simp [toP] at e
  | .obj _, _, _, .obj _, e => by simp [toP] at e
  | .loc _, _, _, .loc _, e => by simp [toP] at e
theorem Reps.dp (hf : ∀ p o, F p = some o → H p = some o) : ∀ {ds : List D} {vs : List V} {xs : List PyData}, Reps K F A vs ds → toPs ds = some xs → DpAll K H vs xs
  | [], _, _, .nil, e => by simp [toPs] at e; subst e; exact .nil
  | d :: ds, _, _, .cons h r, e => by
    simp only [toPs, Option.bind_eq_bind, Option.bind_eq_some_iff, Option.some.injEq] at e
    obtain ⟨x, e1, xs, e2, rfl⟩ := e
    exact .cons (Rep.dp hf h e1) (Reps.dp hf r e2)
end
theorem intsD_some : ∀ {ds : List D} {ns : List Int}, intsD ds = some ns → ds = ns.map D.int
  | [], _, e => by simp [intsD] at e; subst e; rfl
  | .int i :: ds, _, e => by
    simp only [intsD, Option.map_eq_some_iff] at e
    obtain ⟨ns, e1, rfl⟩ := e
    rw [intsD_some e1]; rfl
  | .non :: _, _, e => by simp [intsD] at e
  | .bl _ :: _, _, e => by simp [intsD] at e
  | .str _ :: _, _, e => by simp [intsD] at e
  | .ty _ :: _, _, e => by simp [intsD] at e
  | .tup _ :: _, _, e => by simp [intsD] at e
  | .lst _ :: _, _, e => by simp [intsD] at e
  | .dic _ :: _, _, e => by simp [intsD] at e
  | .obj _ :: _, _, e => by simp [intsD] at e
  | .loc _ :: _, _, e => by simp [intsD] at e
theorem blsD_some : ∀ {ds : List D} {ns : List Bool}, blsD ds = some ns → ds = ns.map D.bl
  | [], _, e => by simp [blsD] at e; subst e; rfl
  | .bl i :: ds, _, e => by
    simp only [blsD, Option.map_eq_some_iff] at e
    obtain ⟨ns, e1, rfl⟩ := e
    rw [blsD_some e1]; rfl
  | .non :: _, _, e => by simp [blsD] at e
  | .int _ :: _, _, e => by simp [blsD] at e
  | .str _ :: _, _, e => by simp [blsD] at e
  | .ty _ :: _, _, e => by simp [blsD] at e
  | .tup _ :: _, _, e => by simp [blsD] at e
  | .lst _ :: _, _, e => by simp [blsD] at e
  | .dic _ :: _, _, e => by simp [blsD] at e
  | .obj _ :: _, _, e => by simp [blsD] at e
  | .loc _ :: _, _, e => by simp [blsD] at e
theorem intsD_map (ns : List Int) : intsD (ns.map D.int) = some ns := by
  induction ns with
  | nil => rfl
  | cons n ns ih => simp [intsD, ih]
theorem blsD_map (ns : List Bool) : blsD (ns.map D.bl) = some ns := by
  induction ns with
  | nil => rfl
  | cons n ns ih => simp [blsD, ih]
theorem Rep.flat {v : V} {d : D} (h : Rep K F A v d) (f : flatD d = true) : flatV v = true := by
  cases h <;> first | rfl | (simp [flatD] at f)
theorem Reps.flat : ∀ {vs : List V} {ds : List D}, Reps K F A vs ds → ds.all flatD = true → vs.all flatV = true
  | _, _, .nil, _ => rfl
  | _, _, .cons h r, f => by
    rw [List.all_cons, Bool.and_eq_true] at f
    rw [List.all_cons, Rep.flat h f.1, Reps.flat r f.2]; rfl
theorem Rep.feq {v u : V} {d e : D} (h : Rep K F A v d) (g : Rep K F A u e) (f1 : flatD d = true) (f2 : flatD e = true) : eqV v u = feqD d e := by
  cases h <;> cases g <;> first | rfl | (simp [flatD] at f1) | (simp [flatD] at f2)
theorem Reps.inv {v : V} {d : D} (h : Rep K F A v d) (f : flatD d = true) : ∀ {vs : List V} {ds : List D}, Reps K F A vs ds → ds.all flatD = true → inV v vs = ds.any fun y => feqD y d
  | _, _, .nil, _ => rfl
  | _, _, .cons g r, f2 => by
    rw [List.all_cons, Bool.and_eq_true] at f2
    unfold inV
    rw [List.any_cons, List.any_cons, Rep.feq g h f2.1 f]
    exact congrArg _ (Reps.inv h f r f2.2)
theorem Rep.non_iff {v : V} {d : D} (h : Rep K F A v d) : decide (v = .non) = (match d with | .non => true | _ => false) := by
  cases h <;> simp
end
/-- a comparison is g over data -/
def Cm2 (K : PySem.W.Frag) (CA : Str → Option Addr) (r : R2) (g : D → D → Option Bool) : Prop :=
  ∀ (W : Wd) (σ : L2.St) (H : Hp) (env : Env) (obs : Obs) (x y : V) (a b : D) (k : Bool) (Q : V → Hp → Prop), SRel K CA W σ H env obs → W.rep K x a → W.rep K y b → g a b = some k → Q (.bl k) H → r x y H Q
section
variable {X : Cx} {CA : Str → Option Addr}
theorem eq_ok (hu : X.A.units + 64 < cLine) : ∃ r, OpR X (compareOp .Eq) r ∧ Cm2 X.K CA r eqD := by
  refine ⟨_, op_eqD hu, ?_⟩
  intro W σ H env obs x y a b k Q S rx ry e q
  simp only [eqD, Option.bind_eq_bind, Option.bind_eq_some_iff] at e
  obtain ⟨u, e1, w, e2, e⟩ := e
  split at e
  · rename_i h; cases e
    rw [Bool.and_eq_true] at h
    exact ⟨u, w, Rep.dp S.fh rx e1, Rep.dp S.fh ry e2, h.1, h.2, q⟩
  · cases e
theorem ne_ok (hu : X.A.units + 64 < cLine) : ∃ r, OpR X (compareOp .NotEq) r ∧ Cm2 X.K CA r (fun a b => (eqD a b).map (!·)) := by
  refine ⟨_, op_neD hu, ?_⟩
  intro W σ H env obs x y a b k Q S rx ry e q
  simp only [Option.map_eq_some_iff] at e
  obtain ⟨k', e, rfl⟩ := e
  simp only [eqD, Option.bind_eq_bind, Option.bind_eq_some_iff] at e
  obtain ⟨u, e1, w, e2, e⟩ := e
  split at e
  · rename_i h; cases e
    rw [Bool.and_eq_true] at h
    exact ⟨u, w, Rep.dp S.fh rx e1, Rep.dp S.fh ry e2, h.1, h.2, q⟩
  · cases e
theorem lt_ok (hu : X.A.units < cLine) : ∃ r, OpR X (compareOp .Lt) r ∧ Cm2 X.K CA r ltD := by
  refine ⟨_, OpR.or op_lt (OpR.or (op_ltT hu) op_lt_str), ?_⟩
  intro W σ H env obs x y a b k Q S rx ry e q
  unfold ltD at e
  split at e
  · cases e; cases rx; cases ry
    exact .inl ⟨_, _, rfl, rfl, q⟩
  · simp only [Option.bind_eq_bind, Option.bind_eq_some_iff] at e
    obtain ⟨u, e1, w, e2, e⟩ := e
    cases e
    cases intsD_some e1; cases intsD_some e2
    obtain ⟨p, vs, rfl, h1, r1⟩ := S.tup rx
    obtain ⟨p2, us, rfl, h2, r2⟩ := S.tup ry
    rw [r1.to_ints] at h1; rw [r2.to_ints] at h2
    exact .inr (.inl ⟨p, p2, u, w, rfl, rfl, h1, h2, q⟩)
  · cases e; cases rx; cases ry
    exact .inr (.inr ⟨_, _, rfl, rfl, q⟩)
  · cases e
theorem le_ok : ∃ r, OpR X (compareOp .LtE) r ∧ Cm2 X.K CA r leD := by
  refine ⟨_, op_le, ?_⟩
  intro W σ H env obs x y a b k Q S rx ry e q
  unfold leD at e
  split at e
  · cases e; cases rx; cases ry
    exact ⟨_, _, rfl, rfl, q⟩
  · cases e
theorem gt_ok : ∃ r, OpR X (compareOp .Gt) r ∧ Cm2 X.K CA r (cmpD .Gt) := by
  refine ⟨_, op_gt, ?_⟩
  intro W σ H env obs x y a b k Q S rx ry e q
  unfold cmpD at e
  simp only at e
  split at e
  · cases e; cases rx; cases ry
    exact ⟨_, _, rfl, rfl, q⟩
  · cases e
theorem ge_ok : ∃ r, OpR X (compareOp .GtE) r ∧ Cm2 X.K CA r (cmpD .GtE) := by
  refine ⟨_, op_ge, ?_⟩
  intro W σ H env obs x y a b k Q S rx ry e q
  unfold cmpD at e
  simp only at e
  split at e
  · cases e; cases rx; cases ry
    exact ⟨_, _, rfl, rfl, q⟩
  · cases e
def rInDT (K : PySem.W.Frag) (neg : Bool) : R2 := fun x y H Q => ∃ d ds, Dp K H x d ∧ (Dp K H y (.tuple ds) ∨ Dp K H y (.list ds)) ∧ SeqAt.shaped d = true ∧ SeqAt.shaped (.tuple ds) = true ∧ Q (.bl (if neg then !(ds.any fun z => PyData.eqv z d) else ds.any fun z => PyData.eqv z d)) H
theorem op_inDT (hu : X.A.units + 65 < cLine) : OpR X (compareOp .In) (rInDT X.K false) := by
  intro pins s σ H x y v u Q I rx ry h
  obtain ⟨d, ds, hd, he, sd, se, q⟩ := h
  obtain ⟨as, r1⟩ := Dp.reads I d x v hd rx
  rcases he with he | he
  case inr =>
    obtain ⟨bs, r2⟩ := Dp.reads I (.list ds) y u he ry
    exact SeqAt.in_list_reads r2 r1 (SeqAt.canLay_of_shaped se) (SeqAt.canLay_of_shaped sd) (room_in_shaped sd hu) ⟨.bl _, H, I, rfl, q⟩
  obtain ⟨bs, r2⟩ := Dp.reads I (.tuple ds) y u he ry
  exact SeqAt.in_tuple_reads r2 r1 (SeqAt.canLay_of_shaped se) (SeqAt.canLay_of_shaped sd) (room_in_shaped sd hu) ⟨.bl _, H, I, rfl, q⟩
theorem op_notInDT (hu : X.A.units + 65 < cLine) : OpR X (compareOp .NotIn) (rInDT X.K true) := by
  intro pins s σ H x y v u Q I rx ry h
  obtain ⟨d, ds, hd, he, sd, se, q⟩ := h
  obtain ⟨as, r1⟩ := Dp.reads I d x v hd rx
  rcases he with he | he
  case inr =>
    obtain ⟨bs, r2⟩ := Dp.reads I (.list ds) y u he ry
    exact SeqAt.notIn_list_reads r2 r1 (SeqAt.canLay_of_shaped se) (SeqAt.canLay_of_shaped sd) (room_in_shaped sd hu) ⟨.bl _, H, I, rfl, q⟩
  obtain ⟨bs, r2⟩ := Dp.reads I (.tuple ds) y u he ry
  exact SeqAt.notIn_tuple_reads r2 r1 (SeqAt.canLay_of_shaped se) (SeqAt.canLay_of_shaped sd) (room_in_shaped sd hu) ⟨.bl _, H, I, rfl, q⟩
theorem in_ok0 {neg : Bool} {W : Wd} {σ : L2.St} {H : Hp} {env : Env} {obs : Obs} {x y : V} {a b : D} {k : Bool} {Q : V → Hp → Prop} (S : SRel X.K CA W σ H env obs) (rx : W.rep X.K x a) (ry : W.rep X.K y b) (e : inD a b = some k) (q : Q (.bl (if neg then !k else k)) H) :
    rIn X.K neg x y H Q ∨ rInDT X.K neg x y H Q := by
  unfold inD at e
  split at e
  · rename_i ds
    split at e
    · rename_i h; cases e
      rw [Bool.and_eq_true] at h
      obtain ⟨p2, us, rfl, h2, r2⟩ := S.tup ry
      exact .inl ⟨p2, us, rfl, .inr h2, rx.flat h.1, r2.flat h.2, by rw [Reps.inv rx h.1 r2 h.2]; exact q⟩
    · simp only [inDeep, Option.bind_eq_bind, Option.bind_eq_some_iff] at e
      obtain ⟨u, e1, w, e2, e⟩ := e
      split at e
      · rename_i h; cases e
        rw [Bool.and_eq_true] at h
        have e3 : toP (.tup ds) = some (.tuple w) := by simp only [toP, e2, Option.map_some]
        exact .inr ⟨u, w, Rep.dp S.fh rx e1, .inl (Rep.dp S.fh ry e3), h.1, h.2, q⟩
      · cases e
  · split at e
    · rename_i h; cases e
      rw [Bool.and_eq_true] at h
      obtain ⟨p2, us, rfl, h2, r2⟩ := S.lst ry
      exact .inl ⟨p2, us, rfl, .inl (SqL.of h2), rx.flat h.1, r2.flat h.2, by rw [Reps.inv rx h.1 r2 h.2]; exact q⟩
    · rename_i ds _
      simp only [inDeep, Option.bind_eq_bind, Option.bind_eq_some_iff] at e
      obtain ⟨u, e1, w, e2, e⟩ := e
      split at e
      · rename_i h; cases e
        rw [Bool.and_eq_true] at h
        have e3 : toP (.lst ds) = some (.list w) := by simp only [toP, e2, Option.map_some]
        exact .inr ⟨u, w, Rep.dp S.fh rx e1, .inr (Rep.dp S.fh ry e3), h.1, h.2, q⟩
      · cases e
  · cases e
theorem in_ok (hu : X.A.units + 65 < cLine) : ∃ r, OpR X (compareOp .In) r ∧ Cm2 X.K CA r inD :=
  ⟨_, OpR.or op_in_seq (op_inDT hu), fun W σ H env obs x y a b k Q S rx ry e q => in_ok0 S rx ry e q⟩
theorem notIn_ok (hu : X.A.units + 65 < cLine) : ∃ r, OpR X (compareOp .NotIn) r ∧ Cm2 X.K CA r (fun a b => (inD a b).map (!·)) :=
  ⟨_, OpR.or op_notIn_seq (op_notInDT hu), fun W σ H env obs x y a b k Q S rx ry e q => by
    simp only [Option.map_eq_some_iff] at e
    obtain ⟨k', e, rfl⟩ := e
    exact in_ok0 S rx ry e q⟩
theorem is_ok : ∃ r, OpR X (compareOp .Is) r ∧ Cm2 X.K CA r (cmpD .Is) := by
  refine ⟨_, OpR.or op_isN op_isBl, ?_⟩
  intro W σ H env obs x y a b k Q S rx ry e q
  unfold cmpD at e
  simp only at e
  split at e
  · cases e; cases rx; cases ry; exact .inl ⟨rfl, q⟩
  · rename_i hn
    cases e; cases ry
    refine .inl ⟨rfl, ?_⟩
    rw [rx.non_iff]
    split
    · rename_i z; exact absurd rfl hn
    · exact q
  · cases e; cases rx; cases ry; exact .inr ⟨_, _, rfl, rfl, q⟩
  · cases e
theorem isNot_ok : ∃ r, OpR X (compareOp .IsNot) r ∧ Cm2 X.K CA r (cmpD .IsNot) := by
  refine ⟨_, OpR.or op_notN op_notBl, ?_⟩
  intro W σ H env obs x y a b k Q S rx ry e q
  unfold cmpD at e
  simp only at e
  split at e
  · cases e; cases rx; cases ry; exact .inl ⟨rfl, q⟩
  · rename_i hn
    cases e; cases ry
    refine .inl ⟨rfl, ?_⟩
    rw [rx.non_iff]
    split
    · rename_i z; exact absurd rfl hn
    · exact q
  · cases e; cases rx; cases ry; exact .inr ⟨_, _, rfl, rfl, q⟩
  · cases e
theorem cmp_ok (hu : X.A.units + 65 < cLine) : ∀ op : CmpOp, ∃ r, OpR X (compareOp op) r ∧ Cm2 X.K CA r (cmpD op)
  | .Eq => eq_ok (by omega)
  | .NotEq => ne_ok (by omega)
  | .Lt => lt_ok (by omega)
  | .LtE => le_ok
  | .Gt => gt_ok
  | .GtE => ge_ok
  | .Is => is_ok
  | .IsNot => isNot_ok
  | .In => in_ok hu
  | .NotIn => notIn_ok hu
end
end Mp

set_option Elab.async false
set_option linter.all false
set_option maxRecDepth 100000
set_option maxHeartbeats 4000000
/-! Two rules of the model for tuples: read from behind, and taken so many times. -/
namespace Mp
open PySem PySem.Spec PyProof.Rows L2 HT

section
variable {prog : Program} {w : World} {A : Around} {E : Value → Shared → Prop} {s : Shared}
theorem sliceApplied_back {sl : Addr} {vs : Value} {n : Nat} {Q : Int × Int × Nat → Shared → Prop} (hs : s.heap.IsSliceOf sl .none .none vs) (pl : IsPart vs (some (-1)))
    (h : Q ((n : Int) - 1, -1, n) s) : wpAny (model prog w) A (Builtin.Slice.sliceApplied (.ref sl) (pure (n : Int))) Q E s := by
  obtain ⟨os, hos, hcs, hds⟩ := id hs
  unfold Builtin.Slice.sliceApplied Builtin.Slice.sliceFields
  refine wpAny_bind (wpAny_bind (wpAny_field hos hds (x := .none) rfl (wpAny_bind (wpAny_field hos hds (x := .none) rfl (wpAny_bind (wpAny_field hos hds (x := vs) rfl (wpAny_pure ?_)))))))
  refine wpAny_bind (slicePart_ pl ?_)
  show wpAny _ _ (if ((-1 : Int) == 0) = true then _ else _) _ _ s
  rw [if_neg (by decide)]
  refine wpAny_bind (slicePart_none (wpAny_bind (slicePart_none (wpAny_bind (wpAny_pure ?_)))))
  show wpAny _ _ (match Builtin.Slice.sliceAdjust none none (-1) (n : Int) with | (lo, hi) => pure (lo, (-1 : Int), Builtin.Slice.slicePlaces lo hi (-1))) _ _ s
  have e1 : Builtin.Slice.sliceAdjust none none (-1) (n : Int) = ((n : Int) - 1, -1) := by
    unfold Builtin.Slice.sliceAdjust
    simp
  rw [e1]
  have e2 : Builtin.Slice.slicePlaces ((n : Int) - 1) (-1) (-1) = n := by
    unfold Builtin.Slice.slicePlaces
    simp
    split
    · omega
    · omega
  show wpAny _ _ (pure ((n : Int) - 1, (-1 : Int), Builtin.Slice.slicePlaces ((n : Int) - 1) (-1) (-1))) _ _ s
  rw [e2]
  exact wpAny_pure h
theorem fm_congr {α β : Type} {f g : α → Option β} : ∀ {l : List α}, (∀ a ∈ l, f a = g a) → l.filterMap f = l.filterMap g
  | [], _ => rfl
  | a :: l, h => by
    rw [List.filterMap_cons, List.filterMap_cons, h a List.mem_cons_self, fm_congr fun b hb => h b (List.mem_cons_of_mem _ hb)]
theorem pick_back (xs : Array Value) : ((List.range xs.size).filterMap fun (m : Nat) => xs[(((xs.size : Int) - 1) + (m : Int) * -1).toNat]?).toArray = xs.toList.reverse.toArray := by
  have e : ∀ m ∈ List.range xs.size, xs[(((xs.size : Int) - 1) + (m : Int) * -1).toNat]? = (fun (m : Nat) => xs[xs.size - 1 - m]?) m := by
    intro m hm
    have := List.mem_range.mp hm
    have : (((xs.size : Int) - 1) + (m : Int) * -1).toNat = xs.size - 1 - m := by omega
    rw [this]
  rw [fm_congr e]
  congr 1
  have e2 : (fun (m : Nat) => xs[xs.size - 1 - m]?) = (fun i => xs[i]?) ∘ (fun m => xs.size - 1 - m) := rfl
  rw [e2, ← List.filterMap_map, PySem.W.krv_range, List.filterMap_reverse, PySem.W.krv_all]
theorem getItem_tuple_back {t sl : Addr} {items : Array Value} {vs : Value} {Q : Value → Shared → Prop} (ht : IsTup s.heap t items) (hs : s.heap.IsSliceOf sl .none .none vs) (pl : IsPart vs (some (-1)))
    (h : Q (.ref s.heap.objs.size) { s with heap := s.heap.push { cls := .type "tuple", data := .seq items.toList.reverse.toArray } })
    (hsz : items.size ≤ sizeLine) : wpAny (model prog w) A (getItem (.ref t) (.ref sl)) Q E s := by
  have htake : sizeOk (.seq items.toList.reverse.toArray) := by
    show items.toList.reverse.toArray.size ≤ sizeLine
    rw [List.size_toArray, List.length_reverse, Array.length_toList]
    exact hsz
  obtain ⟨os, hos, hcs, hds⟩ := id hs
  have hTs : s.TypeIs (.ref sl) "slice" := ⟨os, hos, hcs⟩
  unfold getItem
  try with_reducible refine wpAny_holding ?_
  first | refine wpAny_bind (wpAny_pure ?_) | skip
  refine wpAny_bind (wpAny_sequenceKey ht.typeIs (by decide) ?_)
  refine wpAny_bind (wpAny_callSpecial?_slot (name := Str.ofString "__getitem__") ht.typeIs PyProof.Rows.slot_tuple_getitem
    (wpAny_call_entry PyProof.Rows.slot_tuple_getitem ht.typeIs entry_tuple_getitem ?_ (args_tuple_getitem _ _)))
  show wpAny _ _ (Builtin.Tuple.tupleItemsOf (.ref t) >>= _) _ _ s
  refine wpAny_bind (tupleItemsOf_ ht ?_)
  refine wpAny_bind (wpAny_typeOf hTs ?_)
  rw [if_pos (by decide)]
  refine wpAny_bind (sliceApplied_back hs pl ?_)
  have hno : ¬ ((((items.size : Int) - 1) == 0 && (-1 : Int) == 1 && items.size == items.size) = true) := by
    intro q
    rw [Bool.and_eq_true, Bool.and_eq_true] at q
    have q1 : (-1 : Int) = 1 := eq_of_beq q.1.2
    omega
  show wpAny _ _ (if (((items.size : Int) - 1) == 0 && (-1 : Int) == 1 && items.size == items.size) = true then _ else _) _ _ s
  rw [if_neg hno, pick_back]
  first
    | exact wpAny_bind (m := Builtin.Tuple.tupleExact _) (wpAny_newObj_type (wpAny_pure ⟨_, rfl, wpAny_pure h⟩) htake)
    | exact wpAny_bind (m := Builtin.Tuple.tupleExact _) (wpAny_newObj_type (wpAny_bind (wpAny_pure (wpAny_pure ⟨_, rfl, wpAny_pure h⟩))) htake)
    | exact wpAny_bind (wpAny_bind (m := Builtin.Tuple.tupleExact _) (wpAny_newObj_type (wpAny_pure (wpAny_pure ⟨_, rfl, wpAny_pure h⟩)) htake))
    | exact wpAny_bind (wpAny_bind (m := Builtin.Tuple.tupleExact _) (wpAny_newObj_type (wpAny_pure ⟨_, rfl, wpAny_pure h⟩) htake))

theorem tuple_mul1 (l : Addr) (items : Array Value) (n : Nat) (dd : Option Addr) (sl : Array (Option Value)) (x : Int) (u : Tok) (c0 : (decide (x < -(2 ^ 63)) || decide (x ≥ 2 ^ 63)) = false) (c1 : (items.isEmpty || x == 1) = true) :
    Meets (Builtin.«tuple.__mul__» ⟨[.ref l, .int x u], []⟩) (fun _ R s => s.heap.get? l = some { cls := .type "tuple", dict := dd, data := .seq items n, slots := sl } ∧ R (.ok (.ret (Value.ref l))) s) :=
  .of_wp fun prog w A R s h => by
    obtain ⟨hp, g, d, tk, os⟩ := s
    obtain ⟨hl, h⟩ := h
    have f1 := AutoSeq1.idx_int
    wp_walk using wpAny_loadPart' hl
    repeat (first
      | (refine wpAny_ite_false (decide_eq_false (by rw [c0]; exact Bool.false_ne_true)) ?_; wp_walk using wpAny_loadPart' hl)
      | (refine wpAny_ite_true (decide_eq_true (by rw [c1])) ?_; wp_walk using wpAny_loadPart' hl))
    exact ⟨_, rfl, h⟩
theorem tuple_mul0 (l : Addr) (items : Array Value) (n : Nat) (dd : Option Addr) (sl : Array (Option Value)) (x : Int) (u : Tok) (c0 : (decide (x < -(2 ^ 63)) || decide (x ≥ 2 ^ 63)) = false) (c1 : (items.isEmpty || x == 1) = false) (c2 : (decide (x ≤ 0) || items.isEmpty) = true) :
    Meets (Builtin.«tuple.__mul__» ⟨[.ref l, .int x u], []⟩) (fun _ R s => s.heap.get? l = some { cls := .type "tuple", dict := dd, data := .seq items n, slots := sl } ∧
      R (.ok (.ret (Value.ref s.heap.objs.size))) { s with heap := s.heap.push { cls := Value.type "tuple", data := Data.seq #[] }, toks := s.toks }) :=
  .of_wp fun prog w A R s h => by
    obtain ⟨hp, g, d, tk, os⟩ := s
    obtain ⟨hl, h⟩ := h
    have f1 := AutoSeq1.idx_int
    wp_walk using wpAny_loadPart' hl
    repeat (first
      | (refine wpAny_ite_false (decide_eq_false (by rw [c0]; exact Bool.false_ne_true)) ?_; wp_walk using wpAny_loadPart' hl)
      | (refine wpAny_ite_false (decide_eq_false (by rw [c1]; exact Bool.false_ne_true)) ?_; wp_walk using wpAny_loadPart' hl)
      | (refine wpAny_ite_true (decide_eq_true (by rw [c2])) ?_; wp_walk using wpAny_loadPart' hl))
    exact ⟨_, rfl, h⟩
end
section
variable {X : Cx}
def rRepA (K : PySem.W.Frag) : R2 := fun x y H Q => ∃ l k xs, x = .ref l ∧ y = .int k ∧ SqT K H l xs ∧ -(2 ^ 63) ≤ k ∧ k < 2 ^ 63 ∧ xs.length * k.toNat ≤ 1000000 ∧
  ((xs = [] ∨ k = 1) → Q (.ref l) H) ∧ (¬ (xs = [] ∨ k = 1) → ∀ p, H p = none → Q (.ref p) (upd H p (.tup (List.replicate k.toNat xs).flatten)))
theorem op_repA : OpR X (binaryOp .Mult) (rRepA X.K) := by
  intro pins s σ H x y v u Q I rx ry h
  obtain ⟨l, k, xs, rfl, rfl, hT, h1, h2, hz, qs, qn⟩ := h
  cases rx
  obtain ⟨t, rfl⟩ := ry
  obtain ⟨its, r, ⟨⟨cls, dd, data, sl⟩, ho, hc, n, hd⟩, hs⟩ := I.tuple hT
  simp only at hc hd
  subst hc hd
  have hle : its.length = xs.length := r.length.symm
  have c0 : (decide (k < -(2 ^ 63)) || decide (k ≥ 2 ^ 63)) = false := by
    rw [decide_eq_false (by omega), decide_eq_false (by omega)] <;> rfl
  have hi : its.toArray.isEmpty = true ↔ xs = [] := by
    cases its with
    | nil => cases xs with
      | nil => simp
      | cons _ _ => simp at hle
    | cons a b => cases xs with
      | nil => simp at hle
      | cons _ _ => simp
  have road : ∀ {Q' : Value → Shared → Prop} {C : Around → (Result → Shared → Prop) → Shared → Prop}, Meets (Builtin.«tuple.__mul__» ⟨[.ref l, .int k t], []⟩) C →
      (∀ A R s', s' = s → (∀ u s2, R (.ok (.ret u)) s2 = Q' u s2) → C A R s') → True := fun _ _ => trivial
  by_cases hsame : xs = [] ∨ k = 1
  · have c1 : (its.toArray.isEmpty || k == 1) = true := by
      rcases hsame with e | e
      · rw [hi.mpr e]; rfl
      · subst e; simp
    refine wpAny_binaryOp_repeat_ref (T := "tuple") (U := "int") (by decide) ⟨_, ho, rfl⟩ (fun s' => typeIs_int s' k t) noFill_tuple_mul F.fills_int_mul F.slot_int_rmul repeat_tuple F.slot_int_index.lookup
      (call_meets F.slot_int_rmul (typeIs_int s k t) F.entry_int_rmul (F.args_int_rmul_2 _ _) (int_rmul_tuple k t l its.toArray n dd sl)
        ⟨ho, rfl, ⟨_, ho, rfl⟩, call_meets F.slot_tuple_mul ⟨_, ho, rfl⟩ F.entry_tuple_mul (F.args_tuple_mul_2 _ _) (tuple_mul1 l its.toArray n dd sl k t c0 c1) ⟨ho, ?_⟩⟩)
    exact ⟨.ref l, H, I, rfl, qs hsame⟩
  · have c1 : (its.toArray.isEmpty || k == 1) = false := by
      have a1 : its.toArray.isEmpty = false := by
        cases q : its.toArray.isEmpty with
        | false => rfl
        | true => exact absurd (.inl (hi.mp q)) hsame
      rw [a1, Bool.false_or]
      exact beq_eq_false_iff_ne.mpr fun e => hsame (.inr e)
    have a1 : its.toArray.isEmpty = false := (Bool.or_eq_false_iff.mp c1).1
    by_cases h0 : k ≤ 0
    · have c2 : (decide (k ≤ 0) || its.toArray.isEmpty) = true := by rw [decide_eq_true h0]; rfl
      refine wpAny_binaryOp_repeat_ref (T := "tuple") (U := "int") (by decide) ⟨_, ho, rfl⟩ (fun s' => typeIs_int s' k t) noFill_tuple_mul F.fills_int_mul F.slot_int_rmul repeat_tuple F.slot_int_index.lookup
        (call_meets F.slot_int_rmul (typeIs_int s k t) F.entry_int_rmul (F.args_int_rmul_2 _ _) (int_rmul_tuple k t l its.toArray n dd sl)
          ⟨ho, rfl, ⟨_, ho, rfl⟩, call_meets F.slot_tuple_mul ⟨_, ho, rfl⟩ F.entry_tuple_mul (F.args_tuple_mul_2 _ _) (tuple_mul0 l its.toArray n dd sl k t c0 c1 c2) ⟨ho, ?_⟩⟩)
      have hk : k.toNat = 0 := by omega
      have := qn hsame s.heap.objs.size (I.hok.fresh (Nat.le_refl _))
      rw [hk, List.replicate_zero, List.flatten_nil] at this
      exact ⟨.ref s.heap.objs.size, _, I.laid (t' := s.toks) (o := .tup []) (fun b ob q => Heap.get?_push_of_some _ q) (Nat.le_refl _) ⟨Nat.zero_le _, _, .nil, IsTup.new _ _⟩, rfl, this⟩
    · have c2 : (decide (k ≤ 0) || its.toArray.isEmpty) = false := by rw [a1, decide_eq_false h0]; rfl
      have hsz0 : its.toArray.size = xs.length := by rw [List.size_toArray, hle]
      have hm : ((its.toArray.size : Nat) : Int) * k ≤ 1000000 := by
        rw [hsz0]
        have e : (((xs.length * k.toNat : Nat)) : Int) = (xs.length : Int) * k := by rw [Int.natCast_mul, Int.toNat_of_nonneg (by omega)]
        omega
      have flen : (List.replicate k.toNat its).flatten.length ≤ sizeLine := by
        rw [PyProof.Rows.lm_len_rep_flat, hle, sizeLine_eq, Nat.mul_comm]
        omega
      have c4 : Builtin.Tuple.tupleTooMany (((its.toArray.size : Nat) : Int) * k) = false := by
        unfold Builtin.Tuple.tupleTooMany
        rw [sizeLine_eq]
        exact decide_eq_false (by omega)
      refine wpAny_binaryOp_repeat_ref (T := "tuple") (U := "int") (by decide) ⟨_, ho, rfl⟩ (fun s' => typeIs_int s' k t) noFill_tuple_mul F.fills_int_mul F.slot_int_rmul repeat_tuple F.slot_int_index.lookup
        (call_meets F.slot_int_rmul (typeIs_int s k t) F.entry_int_rmul (F.args_int_rmul_2 _ _) (int_rmul_tuple k t l its.toArray n dd sl)
          ⟨ho, rfl, ⟨_, ho, rfl⟩, call_meets F.slot_tuple_mul ⟨_, ho, rfl⟩ F.entry_tuple_mul (F.args_tuple_mul_2 _ _) (tuple_mulW l its.toArray n dd sl k t c0 c1 c2 (by omega) c4 (by rw [size_rep, List.size_toArray]; exact flen)) ⟨ho, ?_⟩⟩)
      rw [size_rep]
      refine ⟨.ref s.heap.objs.size, _, I.laid (t' := s.toks) (o := .tup (List.replicate k.toNat xs).flatten) (fun b ob q => Heap.get?_push_of_some _ q) (Nat.le_refl _) ?_, rfl, qn hsame _ (I.hok.fresh (Nat.le_refl _))⟩
      exact ⟨by rw [PyProof.Rows.lm_len_rep_flat, sizeLine_eq, Nat.mul_comm]; omega, _, r.rep k.toNat, IsTup.new _ _⟩
/-- e[::-1] of a list or a tuple -/
def tRevA (K : PySem.W.Frag) (te : TE) : TE := fun σ H Q => te σ H fun x H1 => ∃ a xs, x = .ref a ∧ ((SqL K H1 a xs ∧ ∀ p, H1 p = none → Q (.ref p) (upd H1 p (.lst xs.reverse))) ∨ (SqT K H1 a xs ∧ ∀ p, H1 p = none → Q (.ref p) (upd H1 p (.tup xs.reverse))))
theorem pe_revA {e : Expr} {te : TE} {k : Nat} {p1 p2 p3 pos : Pos} (he : PE X e te) : PE X (.Subscript e (.Slice none none (some (.UnaryOp .USub (.Constant (.int 1) k p1) p2)) p3) pos) (tRevA X.K te) := by
  refine ⟨fun pins s σ H Q I h => ?_⟩
  refine Subscript_ (thn (he.run pins s σ H _ I h) fun v s1 ⟨x, H1, I1, r1, q1⟩ => ?_)
  obtain ⟨a, xs, ex, hx⟩ := q1
  subst ex
  cases r1
  have hst : PO X (some (.UnaryOp .USub (.Constant (.int 1) k p1) p2)) (tPart (tUn (rU fun i => .int (-i)) (tC (.int 1)))) := po_some (pe_un un_neg pe_int)
  refine wpAny_Slice (thn (po_none.run pins s1 σ H1 (fun o H2 => o = none ∧ H2 = H1) I1 ⟨rfl, rfl⟩) fun vl s2 ⟨l, H2, I2, pl, el, e2⟩ => ?_)
  subst el e2
  refine thn (po_none.run pins s2 σ H2 (fun o H3 => o = none ∧ H3 = H2) I2 ⟨rfl, rfl⟩) fun vu s3 ⟨u, H3, I3, pu, eu, e3⟩ => ?_
  subst eu e3
  refine thn (hst.run pins s3 σ H3 (fun o H4 => o = some (-1) ∧ H4 = H3) I3 ⟨1, rfl, -1, rfl, rfl, rfl⟩) fun vs s4 ⟨o, H4, I4, ps, eo, e4⟩ => ?_
  subst eo e4
  have I5 : Inv X pins σ H4 { s4 with heap := s4.heap.push { cls := .type "slice", data := .fields #[vl, vu, vs] } } := I4.kept (t' := s4.toks) fun b ob q => Heap.get?_push_of_some _ q
  show wpAny (model X.prog X.w) X.A (subscriptTail e (.Slice none none (some (.UnaryOp .USub (.Constant (.int 1) k p1) p2)) p3) (.ref a) (.ref s4.heap.objs.size)) (EP X pins σ Q) X.xe { s4 with heap := s4.heap.push { cls := .type "slice", data := .fields #[vl, vu, vs] } }
  rcases hx with ⟨hx, q⟩ | ⟨hx, q⟩
  · obtain ⟨its, r, ht, hz⟩ := I5.list hx
    have hlen := r.length
    refine tail_any (ops := [.ref a, .ref s4.heap.objs.size]) ht.isList.typeIs (PySem.slot_list_getitem.lookup) ?_ (by with_unfolding_all rfl)
    refine wpAny_getItem_list_slice ht.isList (Heap.IsSliceOf.new _ vl vu vs) pl pu ps (by decide) ?_ (by rw [List.size_toArray]; omega)
    rw [PySem.W.krv_pick]
    refine ⟨.ref _, _, I5.laid (t' := s4.toks) (o := .lst xs.reverse) (fun b ob q => Heap.get?_push_of_some _ q) (Nat.le_refl _) ?_, rfl, q _ (I5.hok.fresh (Nat.le_refl _))⟩
    exact ⟨by rw [List.length_reverse]; exact hz, _, 0, r.reverse, Heap.get?_push_size _ rfl⟩
  · obtain ⟨its, r, ht, hz⟩ := I5.tuple hx
    have hlen := r.length
    cases pl
    cases pu
    refine tail_any (ops := [.ref a, .ref s4.heap.objs.size]) ht.typeIs (PyProof.Rows.slot_tuple_getitem.lookup) ?_ (by with_unfolding_all rfl)
    refine getItem_tuple_back ht (Heap.IsSliceOf.new _ .none .none vs) ps ?_ (by rw [List.size_toArray]; omega)
    refine ⟨.ref _, _, I5.laid (t' := s4.toks) (o := .tup xs.reverse) (fun b ob q => Heap.get?_push_of_some _ q) (Nat.le_refl _) ?_, rfl, q _ (I5.hok.fresh (Nat.le_refl _))⟩
    exact ⟨by rw [List.length_reverse]; exact hz, _, r.reverse, IsTup.new _ _⟩
end
end Mp

set_option Elab.async false
set_option linter.all false
set_option maxRecDepth 100000
/-! More calls of the model: the least of a tuple, a set of a list of numbers. -/
namespace Mp
open PySem PySem.Spec PyProof.Rows L2

section
variable {prog : Program} {w : World} {A : Around} {E : Value → Shared → Prop} {s : Shared} {l : Addr} {xs : Array (Int × Tok)}
theorem iter_tupI {Q : Value → Shared → Prop} (hl : s.heap.IsTuple l (intItems xs))
    (h : ∀ s2 : Shared, s2 = { s with heap := s.heap.push { cls := .type "tuple_iterator", data := .fields #[.ref l, .int 0 0] } } →
      (s2.heap.IsTupleIter s.heap.objs.size l 0 ∧ s2.heap.IsTuple l (intItems xs)) → (∀ b ∈ [s.heap.objs.size, l], b < s2.heap.objs.size) → l ≠ s.heap.objs.size → Q (.ref s.heap.objs.size) s2) :
    wpAny (model prog w) A (pyIter (.ref l)) Q E s := by
  have hlt : l < s.heap.objs.size := by obtain ⟨_, e, _⟩ := hl; exact Heap.lt_size e
  refine wpAny_pyIter_tuple hl (h _ rfl ⟨⟨_, Heap.get?_push_size _ rfl, rfl, rfl⟩, hl.push _⟩ (fun b hb => ?_) (Nat.ne_of_lt hlt))
  show b < (s.heap.push _).objs.size
  rw [Heap.size_push]
  simp only [List.mem_cons, List.not_mem_nil, or_false] at hb
  rcases hb with e | e
  · rw [e]; exact Nat.lt_succ_self _
  · rw [e]; exact Nat.lt_succ_of_lt hlt
theorem old_keptT {h' : Heap} (hk : ∀ b o, b ∉ [s.heap.objs.size] → (s.heap.push { cls := .type "tuple_iterator", data := .fields #[.ref l, .int 0 0] }).get? b = some o → h'.get? b = some o) :
    ∀ b o, s.heap.get? b = some o → h'.get? b = some o := fun b o e => by
  refine hk b o (fun hm => ?_) (Heap.get?_push_of_some _ e)
  have h1 := Heap.lt_size e
  simp only [List.mem_cons, List.not_mem_nil, or_false] at hm
  exact absurd (hm ▸ h1) (Nat.lt_irrefl _)
theorem min_tupI {Q : Value → Shared → Prop} (hh : A.handled = none) (hl : s.heap.IsTuple l (intItems xs)) (hne : 0 < xs.size)
    (h : ∀ v h' tk, (intItems xs)[argBest (fun i j => decide (numAt xs i < numAt xs j)) (xs.size - 1)]? = some v → (∀ b o, s.heap.get? b = some o → h'.get? b = some o) → Q v { s with heap := h', toks := tk }) :
    wpAny (model prog w) A (call (.builtin "min") [.ref l]) Q E s := by
  refine call_min_walk (iter_tupI hl fun s2 e st hfp hlI => ?_)
  subst e
  refine ⟨_, _, _, _, _, _, _, rfl, Walks.tuple (A := A.in1) hh _ l hlI (intItems xs), st, hfp, by simpa [intItems] using hne, CmpOf.ints_lt (numAt xs) (fun _ _ => intItems_at), fun v h' tk hP hk => ?_⟩
  exact h v h' tk (by simpa [intItems] using hP) (old_keptT hk)
theorem max_tupI {Q : Value → Shared → Prop} (hh : A.handled = none) (hl : s.heap.IsTuple l (intItems xs)) (hne : 0 < xs.size)
    (h : ∀ v h' tk, (intItems xs)[argBest (fun i j => decide (numAt xs i > numAt xs j)) (xs.size - 1)]? = some v → (∀ b o, s.heap.get? b = some o → h'.get? b = some o) → Q v { s with heap := h', toks := tk }) :
    wpAny (model prog w) A (call (.builtin "max") [.ref l]) Q E s := by
  refine call_max_walk (iter_tupI hl fun s2 e st hfp hlI => ?_)
  subst e
  refine ⟨_, _, _, _, _, _, _, rfl, Walks.tuple (A := A.in1) hh _ l hlI (intItems xs), st, hfp, by simpa [intItems] using hne, CmpOf.ints_gt (numAt xs) (fun _ _ => intItems_at), fun v h' tk hP hk => ?_⟩
  exact h v h' tk (by simpa [intItems] using hP) (old_keptT hk)
variable {its : List Value} {ns : List Int}
theorem min_rawT {Q : Value → Shared → Prop} (hh : A.handled = none) (hl : s.heap.IsTuple l its.toArray) (hi : IntsAre its ns) (hne : 0 < ns.length)
    (h : ∀ h' tk M t', (∀ b o, s.heap.get? b = some o → h'.get? b = some o) → M ∈ ns → (∀ a, a ∈ ns → M ≤ a) → Q (.int M t') { s with heap := h', toks := tk }) : wpAny (model prog w) A (call (.builtin "min") [.ref l]) Q E s := by
  obtain ⟨xs, e⟩ := hi.allInts.items
  have hn : numsOf (intItems xs).toList = ns := by rw [← e]; exact hi.numsOf
  rw [nums_intItems] at hn
  subst hn
  rw [e] at hl
  have hsz : 0 < xs.size := by simpa using hne
  refine min_tupI hh hl hsz fun v h' tk hv hk => ?_
  obtain ⟨t, rfl⟩ := intItems_at hv
  obtain ⟨h1, h2⟩ := argBest_lt (numAt xs) (xs.size - 1)
  refine h h' tk _ t hk ?_ fun a ha => ?_
  · rw [numAt_eq]; exact PySem.getD_mem (by rw [List.length_map, Array.length_toList]; omega)
  · obtain ⟨j, hj, rfl⟩ := mem_getD ha
    rw [List.length_map, Array.length_toList] at hj
    rw [← numAt_eq]; exact h2 j (by omega)
theorem max_rawT {Q : Value → Shared → Prop} (hh : A.handled = none) (hl : s.heap.IsTuple l its.toArray) (hi : IntsAre its ns) (hne : 0 < ns.length)
    (h : ∀ h' tk M t', (∀ b o, s.heap.get? b = some o → h'.get? b = some o) → M ∈ ns → (∀ a, a ∈ ns → a ≤ M) → Q (.int M t') { s with heap := h', toks := tk }) : wpAny (model prog w) A (call (.builtin "max") [.ref l]) Q E s := by
  obtain ⟨xs, e⟩ := hi.allInts.items
  have hn : numsOf (intItems xs).toList = ns := by rw [← e]; exact hi.numsOf
  rw [nums_intItems] at hn
  subst hn
  rw [e] at hl
  have hsz : 0 < xs.size := by simpa using hne
  refine max_tupI hh hl hsz fun v h' tk hv hk => ?_
  obtain ⟨t, rfl⟩ := intItems_at hv
  obtain ⟨h1, h2⟩ := argBest_gt (numAt xs) (xs.size - 1)
  refine h h' tk _ t hk ?_ fun a ha => ?_
  · rw [numAt_eq]; exact PySem.getD_mem (by rw [List.length_map, Array.length_toList]; omega)
  · obtain ⟨j, hj, rfl⟩ := mem_getD ha
    rw [List.length_map, Array.length_toList] at hj
    rw [← numAt_eq]; exact h2 j (by omega)
end
section
variable {P : Program} {w : World} {A : Around} {E : Value → Shared → Prop} {s : Shared}
/-- what stands behind set(xs): numbers of a list -/
abbrev newSetObj (w : World) : Obj := { cls := .type "set", dict := none, data := .set #[] 0 (.fresh 0 0 (!w.params.followText "set-order")) }
set_option maxHeartbeats 3200000 in
theorem set_of_list {q : Addr} {its : Array Value} (ks : List Int) {Q : Value → Shared → Prop} (ha : A.handled = none) (hq : s.heap.IsList q its) (hi : IntsAre its.toList ks) (hs : ks.length + 1 < scanBound)
    (h : ∀ (h' : Heap) (tk c : Nat), SetR w h' s.heap.objs.size (fun j => decide (j ∈ ks)) c → c ≤ ks.length → (∀ b o, s.heap.get? b = some o → h'.get? b = some o) → Q (.ref s.heap.objs.size) { s with heap := h', toks := tk }) :
    wpAny (model P w) A (call (.type "set") [.ref q]) Q E s := by
  have hlen : its.size = ks.length := by
    have z := IntsAre.length hi
    rwa [Array.length_toList] at z
  have f0 := F.called_set.mro
  obtain ⟨c0, tl0, f0⟩ := f0
  have f1 := F.called_set.made
  have f2 := F.called_set.sub
  have f3 := F.called_set.notType
  have f4 := F.called_set.canCreate
  have f5 := F.typeCall_set_1 (.ref q)
  refine wpAny_call (codeAny_of_tree ?_)
  show wpAny _ _ (callAny (.type "set") _) _ _ _
  refine wpAny_pure ⟨Code.quiet_builtin _ (by decide +kernel), codeAny_builtin F.entry_type_call ?_⟩
  rw [Around.under_plain (weight_type_call_type "set" [.ref q] []) rfl]
  repeat (any_goals (first | assumption | wp_step))
  refine codeAny_mono (code_set_led1 (.ref q) (E := E) (Q₁ := fun ob s1 => ob = .ref s.heap.objs.size ∧ s1 = { s with heap := s.heap.push (newSetObj w) }) ⟨rfl, rfl⟩) fun r s1 hr => ?_
  match r, hr with
  | .ok (.ret ob), hr =>
    obtain ⟨rfl, rfl⟩ := hr
    have g1 : (s.heap.push (newSetObj w)).get? s.heap.objs.size = some (newSetObj w) := Heap.get?_push_size _ rfl
    have g2 : Shared.TypeIs { s with heap := s.heap.push (newSetObj w) } (.ref s.heap.objs.size) "set" := ⟨_, g1, rfl⟩
    have g3 := F.called_set.init.lookup
    have g4 := F.called_set.init.bind (.ref s.heap.objs.size)
    repeat (any_goals (first | assumption | wp_step))
    refine codeAny_mono (codeAny_call_builtin (R := wants (fun r s2 => r = .none ∧ ∃ h' tk c, s2 = { s with heap := h', toks := tk } ∧ SetR w h' s.heap.objs.size (fun j => decide (j ∈ ks)) c ∧ c ≤ ks.length ∧
        (∀ b o, s.heap.get? b = some o → h'.get? b = some o)) E) F.called_set.init.plain F.entry_set_init (check_set_init_1 g2 ?_)) fun r2 s2 hr2 => ?_
    · obtain ⟨⟨tc, td, tdat, tsl⟩, k1, k2, nl, k3⟩ := hq
      simp only at k2 k3
      subst k2 k3
      have k4 : (s.heap.push (newSetObj w)).get? q = some { cls := .type "list", dict := td, data := .seq its nl, slots := tsl } := Heap.get?_push_of_some _ k1
      have k5 := F.sub_list_set
      have k6 := F.sub_list_frozenset
      have k7 : (Value.type "list" == Value.type "dict") = false := by decide
      have k8 : (s.heap.push (newSetObj w)).IsList q its := ⟨_, k4, rfl, nl, rfl⟩
      unfold Builtin.«set.__init__» noKeywords Builtin.Frozenset.updateFrom
      generalize hPI : pyIter = PI
      wp_walk
      subst hPI
      refine wpAny_pyIter_list k8 ?_
      refine wpAny_bind (wpAny_runValue ?_)
      have q1 : q < s.heap.objs.size := Heap.lt_size k1
      have q2 : A.in1.in1.in1.handled = none := by simp [ha]
      have q3 : q ≠ (s.heap.push (newSetObj w)).objs.size := by
        rw [Heap.size_push]; exact Nat.ne_of_lt (Nat.lt_succ_of_lt q1)
      have q4 : s.heap.objs.size ∉ [(s.heap.push (newSetObj w)).objs.size, q] := by
        rw [Heap.size_push]
        intro z
        simp only [List.mem_cons, List.not_mem_nil, or_false] at z
        rcases z with z | z
        · exact absurd z (Nat.ne_of_lt (Nat.lt_succ_self _))
        · exact absurd z (Nat.ne_of_gt q1)
      have q5 : ∀ (i : Nat) (v : Value), its[i]? = some v → ∃ k t, ks[i]? = some k ∧ v = .int k t := fun i v hv => by
        have hb : i < ks.length := by rw [← hlen]; exact (Array.getElem?_eq_some_iff.mp hv).1
        obtain ⟨t, e⟩ := PyProof.Rows.IntsAre.int_at hi i v (by rw [Array.getElem?_toList]; exact hv)
        refine ⟨ks[i], t, List.getElem?_eq_getElem hb, ?_⟩
        rw [e, List.getD_eq_getElem?_getD, List.getElem?_eq_getElem hb] <;> rfl
      refine set_update_ints ((Walks.list q2 _ q q3 its).toS) s.heap.objs.size q4 ks hlen hs q5 (its.size - 0) 0 _ (by omega) (Nat.zero_le _)
        ⟨⟨_, Heap.get?_push_size _ rfl, rfl, rfl⟩, (k8.push _)⟩ ?c0 ?cR
      case c0 => exact ⟨0, Nat.le_refl 0, setR_new_at (Heap.get?_push_of_some _ g1)⟩
      case cR =>
        intro s' c' hm hc' hS'
        obtain ⟨h', y1, y2, tk', y3⟩ := s'
        have e1 : y1 = s.gens := hm.gens
        have e2 : y2 = s.drawn := hm.drawn
        have e3 : y3 = s.os := hm.os
        subst e1 e2 e3
        show wpAny _ _ _ _ _ _
        refine wpAny_pure ?_
        show wpAny _ _ (ret Value.none) _ _ _
        rw [hlen] at hc'
        refine wpAny_pure ⟨rfl, h', tk', c', rfl, hS', hc', fun b o e => hm.heap b o (fun z => ?_) (Heap.get?_push_of_some _ (Heap.get?_push_of_some _ e))⟩
        have b0 : b < s.heap.objs.size := Heap.lt_size e
        simp only [List.mem_cons, List.not_mem_nil, or_false] at z
        rcases z with z | z
        · exact absurd z (Nat.ne_of_lt b0)
        · rw [Heap.size_push] at z
          exact absurd z (Nat.ne_of_lt (Nat.lt_succ_of_lt b0))
    · match r2, hr2 with
      | .ok (.ret r), hr2 =>
        obtain ⟨rfl, h', tk, c', rfl, z1, z2, z3⟩ := hr2
        repeat (any_goals (first | assumption | wp_step))
        exact h _ _ _ z1 z2 z3
      | .error e, hr2 => exact hr2
      | .ok .next, hr2 => exact hr2.elim
      | .ok .brk, hr2 => exact hr2.elim
      | .ok .cont, hr2 => exact hr2.elim
  | .error e, hr => exact hr
  | .ok .next, hr => exact hr.elim
  | .ok .brk, hr => exact hr.elim
  | .ok .cont, hr => exact hr.elim
end
section
variable {X : Cx}
def rSetL (K : PySem.W.Frag) (w : World) : List V → Hp → VK → Prop := fun vs H Q => ∃ (a : Addr) (ns : List Int), vs = [V.ref a] ∧ SqL K H a (ns.map V.int) ∧ ns.length + 1 < scanBound ∧
  ∀ (p : Addr) (c : Nat), H p = none → c ≤ ns.length → Q (.ref p) (upd H p (SetO w p (fun j => decide (j ∈ ns)) c))
theorem call_setL (hc : X.calm = true) : CallR X (.type "set") (rSetL X.K X.w) := by
  intro pins s σ H vs us Q I r h
  obtain ⟨a, ns, rfl, hs, hb, q⟩ := h
  obtain ⟨its, rv, hl, _⟩ := I.list hs
  rw [Vals.ref1 r]
  refine set_of_list ns (I.ok.hd hc) hl.isList rv.ints hb fun h' tk c z1 z2 z3 => ?_
  exact ⟨.ref _, upd H s.heap.objs.size (SetO X.w s.heap.objs.size (fun j => decide (j ∈ ns)) c), I.laid z3 (Nat.le_refl _) (setO_new z1), rfl, q _ c (I.hok.fresh (Nat.le_refl _)) z2⟩
def rMinT (K : PySem.W.Frag) : List V → Hp → VK → Prop := fun vs H Q => ∃ (a : Addr) (ns : List Int), vs = [V.ref a] ∧ SqT K H a (ns.map V.int) ∧ 0 < ns.length ∧ ∀ m, m ∈ ns → (∀ k, k ∈ ns → m ≤ k) → Q (.int m) H
def rMaxT (K : PySem.W.Frag) : List V → Hp → VK → Prop := fun vs H Q => ∃ (a : Addr) (ns : List Int), vs = [V.ref a] ∧ SqT K H a (ns.map V.int) ∧ 0 < ns.length ∧ ∀ m, m ∈ ns → (∀ k, k ∈ ns → k ≤ m) → Q (.int m) H
theorem cr_minT (hc : X.calm = true) : CallR X (.builtin "min") (rMinT X.K) := by
  intro pins s σ H vs us Q I r h
  obtain ⟨a, ns, rfl, hs, hne, q⟩ := h
  obtain ⟨its, rv, hl, _⟩ := I.tuple hs
  rw [Vals.ref1 r]
  obtain ⟨o, ho, hcl, hdt⟩ := hl
  exact min_rawT (I.ok.hd hc) ⟨o, ho, hcl, hdt⟩ rv.ints hne fun h' tk m t' hk h1 h2 => ⟨.int _, H, I.kept hk, ⟨_, rfl⟩, q m h1 h2⟩
theorem cr_maxT (hc : X.calm = true) : CallR X (.builtin "max") (rMaxT X.K) := by
  intro pins s σ H vs us Q I r h
  obtain ⟨a, ns, rfl, hs, hne, q⟩ := h
  obtain ⟨its, rv, hl, _⟩ := I.tuple hs
  rw [Vals.ref1 r]
  obtain ⟨o, ho, hcl, hdt⟩ := hl
  exact max_rawT (I.ok.hd hc) ⟨o, ho, hcl, hdt⟩ rv.ints hne fun h' tk m t' hk h1 h2 => ⟨.int _, H, I.kept hk, ⟨_, rfl⟩, q m h1 h2⟩
end
end Mp

set_option Elab.async false
set_option linter.all false
set_option maxRecDepth 100000
set_option maxHeartbeats 4000000
/-! Exception classes over ValueError whose __init__ hands a text on and keeps a place. -/
namespace Mp
open PySem PySem.Spec PyProof.Rows L2

/-- a def of a class's text -/
def inCls (st : Stmt) (j : Nat) : Stmt := match st with
  | .ClassDef _ _ _ b _ _ _ _ _ _ _ => b.getD j (.Pass ⟨0, 0, 0, 0⟩)
  | s => s
/-- the text of such an __init__ -/
structure BadT (st : Stmt) (msg : Str) : Prop where
  body : ∃ p0 p1 p2 k p3 p4 p5 p6 p7 p8 p9 p10 p11 p12 p13, defBody st =
    [.Expr (.Call (.Attribute (.Call (.Name "super" p0) [] [] p1) "__init__" p2) [.BinOp (.Constant (.str msg) k p3) .Add (.Call (.Name "str" p4) [.Name "place" p5] [] p6) p7] [] p8) p9,
     .Assign [.Attribute (.Name "self" p10) "place" p11] (.Name "place" p12) p13] ∧ p2.endLine = p8.line
  args : ∃ a1 a2, (defArgs st).posonlyargs ++ (defArgs st).args = [a1, a2] ∧ a1.arg = "self" ∧ a2.arg = "place"
  kind : (defScope st).kind = .function
  co : (defScope st).isCoroutine = false
  gen : (defScope st).isGenerator = false
  n1 : (defScope st).names.lookup ("self" : Str) = some .local
  n2 : (defScope st).names.lookup ("place" : Str) = some .local
  n3 : (defScope st).names.lookup ("__class__" : Str) = some .free
  n4 : (defScope st).names.lookup ("super" : Str) = some .globalImplicit
  n5 : (defScope st).names.lookup ("str" : Str) = some .globalImplicit
  n6 : (defScope st).names.all (fun y => y.2 != .cell && (y.2 != .free || y.1 == ("__class__" : Str))) = true
  few : msg.length < 100
  b : ∀ (nm qual : Str) (kV doc pm : Value) (an : Option Addr) (cdv ct : Value) (cc : Addr) (us : List Value), us.length = 2 → bindArgs (PySem.W.ksFn nm qual (defArgs st) (defBody st) (defScope st) .none kV doc pm an cdv ct cc) ⟨us, []⟩ = pure ((["self", "place"] : List Str).zip us)
/-- what the written part says of it -/
structure BadC (P : Program) (K : PySem.W.Frag) (st : Stmt) (C fI cc cda : Addr) : Prop where
  o : OexC K C
  ini : PySem.W.findIn K (.ref C) "__init__" = some (some (.ref fI))
  typ : PySem.W.typeIn K (.ref fI) = some (.type "function")
  fn : ∃ oc od osl qual kV doc pm an ct, K.lookup fI = some ⟨oc, od, .func (PySem.W.ksFn "__init__" qual (defArgs st) (defBody st) (defScope st) .none kV doc pm an (.ref cda) ct cc), osl⟩ ∧ PySem.W.codeIn K (.ref cda) qual = true
  code : ∃ ccl cdd vs ccs file tf, K.lookup cda = some ⟨ccl, cdd, .fields vs, ccs⟩ ∧ vs[2]? = some (.str file tf) ∧ ((P.main.file : Str) == file) = true
  cell : ∃ cl cld csl, K.lookup cc = some ⟨cl, cld, .cell (some (.ref C)), csl⟩
  cls : ∃ cd, PySem.W.clsIn K C = some cd
  sub : PySem.W.mroIn K C (.ref C) = some true
  sup : PySem.W.ks_superIn K C C "__init__" = some (some (.builtin "ValueError.__init__"))
  ve : PySem.W.subIn K (.ref C) (.type "ValueError") = some true
  s1 : PySem.W.nsIn K mainGlobals "super" = some none
  s2 : PySem.W.nsIn K mainGlobals "str" = some none
  tp : PySem.W.nsIn K cStatics "thirdparty.any" = some none
  pl : PySem.W.findIn K (.ref C) "place" = some none
  xf : XfC K C
  ex : PySem.W.exmOne K (.ref C) (.ref C) = some true
  top : (P.main.scope.names.lookup ("super" : Str)).isSome = false
/-- the promise of such an __init__: the place is kept, the rest of it is not told -/
def spInit (C : Addr) : Sp := fun vs H Q _ => ∃ (a : Addr) (i : Int), vs = [.ref a, .int i] ∧ i.natAbs < 1000000 ∧ H a = some (exo a C none) ∧ ∀ dx, H dx = none → dx ≠ a → Q .non (upd (upd H dx (exd dx [(("place" : Str), .int i)])) a (exo a C (some dx)))

section
variable {P : Program} {w : World} {K : PySem.W.Frag} {mg : Str → Option Value} {base : Heap}
/-- the context of the __init__'s body -/
def cxI (P : Program) (w : World) (K : PySem.W.Frag) (mg : Str → Option Value) (base : Heap) (qual : Str) (scope : Scope) (f cc : Addr) (cd : Value) (A : Around) (outer : List PySem.Env) (s : Shared) (H : Hp) (xe : Value → Shared → Prop) : Cx where
  prog := P
  w := w
  K := K
  mg := mg
  base := base
  A := A.deeper (PySem.W.ksEnv qual scope s.heap.objs.size f cd cc)
  N := ["self", "place"]
  s_0 := s
  H_0 := H
  env := PySem.W.ksEnv qual scope s.heap.objs.size f cd cc
  outer := outer
  stack := PySem.W.ksEnv qual scope s.heap.objs.size f cd cc :: outer
  ex := []
  calm := true
  fn := fun x => !(x == ("__class__" : Str))
  pn := []
  xe := xe
theorem cells_one {cc c : Addr} {x : Str} (h : ([(("__class__" : Str), cc)] : List (Str × Addr)).lookup x = some c) : x = "__class__" ∧ c = cc := by
  rw [List.lookup_cons] at h
  by_cases e : x = ("__class__" : Str)
  · subst e; simp at h; exact ⟨rfl, h.symm⟩
  · have : (x == ("__class__" : Str)) = false := by simpa using e
    rw [this] at h; simp at h
theorem inv_init {qual : Str} {st : Stmt} {msg : Str} {f cc : Addr} {cd : Value} {A : Around} {outer : List PySem.Env} {s : Shared} {h1 : Heap} {tk : Nat} {H : Hp} {xe : Value → Shared → Prop} {a : Addr} {i : Int} {u : Tok} {oc : Obj} {z : Option Value}
    (T : BadT st msg) (hcc : K.lookup cc = some oc) (hoc : oc.data = .cell z) (hd : A.handled = none) (e0 : Env0 P w K mg base A outer s H)
    (hns : h1.Ns s.heap.objs.size (fun x => (([("self" : Str), "place"].zip [Value.ref a, .int i u] : List (Str × Value))).reverse.lookup x)) (hk : ∀ b o, s.heap.get? b = some o → h1.get? b = some o) :
    Inv (cxI P w K mg base qual (defScope st) f cc cd A outer s H xe) [] [some (.ref a), some (.int i)] H { s with heap := h1, toks := tk } := by
  have hb := e0.bs cc oc (e0.mod.kin _ _ hcc)
  have hcl : ∀ y c, (cxI P w K mg base qual (defScope st) f cc cd A outer s H xe).env.cells.lookup y = some c → y = ("__class__" : Str) ∧ c = cc := fun y c e => cells_one e
  have noA : ∀ b : Addr, b ∉ (cxI P w K mg base qual (defScope st) f cc cd A outer s H xe).ex := fun b z => absurd (show b ∈ ([] : List Addr) from z) (by simp)
  refine ⟨⟨e0.mod, T.kind, rfl, rfl, Nat.le_refl _, fun x y c e1 e2 => ?_, fun x hx => ?_, fun x c hf e => ?_, fun _ => hd, Around.frames_deeper e0.frames, .inr ⟨rfl, rfl⟩, fun b z => absurd z (noA b), e0.bs, e0.bsz, fun b _ _ => noA b, fun b z => absurd z (noA b), e0.funs, e0.frf⟩,
    rfl, e0.bare, Un.kept hk, ⟨_, hns, fun i' y v h1' h2' h3' => ?_⟩, fun y c e => ?_, e0.hok.fresh (Nat.le_refl _), fun y c e => ?_, fun p hp => absurd (show p ∈ ([] : List (Addr × Obj)) from hp) (by simp), e0.hok.kept hk, rfl⟩
  · rw [(hcl x c e1).1, (hcl y c e2).1]
  · have hall := List.all_eq_true.mp T.n6
    have hx : (defScope st).names.lookup x = some .cell ∨ (defScope st).names.lookup x = some .free := hx
    have : x = ("__class__" : Str) := by
      rcases hx with hx | hx
      · have := hall _ (PySem.mem_of_lookup hx); simp at this
      · have := hall _ (PySem.mem_of_lookup hx); simpa using this
    subst this
    exact ⟨cc, rfl⟩
  · have := (hcl x c e).1
    subst this
    simp [cxI] at hf
  · match i', h1', h2' with
    | 0, h1', h2' =>
      have e1 : y = ("self" : Str) := (Option.some.inj h1').symm
      have e2 : v = .ref a := (Option.some.inj (Option.some.inj h2')).symm
      subst e1 e2
      exact ⟨.ref a, rfl, .inl ⟨T.n1, by simp [List.lookup, show (("self" : Str) == "place") = false from by decide]⟩⟩
    | 1, h1', h2' =>
      have e1 : y = ("place" : Str) := (Option.some.inj h1').symm
      have e2 : v = .int i := (Option.some.inj (Option.some.inj h2')).symm
      subst e1 e2
      exact ⟨.int i u, ⟨u, rfl⟩, .inl ⟨T.n2, by simp [List.lookup]⟩⟩
    | n + 2, h1', _ => simp [cxI] at h1'
  · obtain ⟨_, rfl⟩ := hcl y c e
    exact ⟨z, oc, hk _ _ hb.1, hoc⟩
  · obtain ⟨_, rfl⟩ := hcl y c e
    exact hb.2
/-- the built-in __init__, bound to an exception that is being made, is called -/
theorem mw_call {X : Cx} {pins : List (Addr × Obj)} {σ : L2.St} {H : Hp} {s : Shared} {A : Around} {E : Value → Shared → Prop} {a C u : Addr} {us : List Value} {Q : Value → Shared → Prop}
    (T : OexC X.K C) (I : Inv X pins σ H s) (e : H a = some (exo a C none)) (hu : s.heap.get? u = some (PySem.W.kxs_mw "ValueError.__init__" a)) (hl : us.length ≤ sizeLine)
    (h : ∀ s', Inv X pins σ H s' → Q .none s') : wpAny (model X.prog X.w) A (call (.ref u) us) Q E s := by
  obtain ⟨nm, q, N, bs, bm, sn, sub, ab, col, dd, k0, k1, k2, k3, k5, hC, hbm⟩ := T.cls
  obtain ⟨t1, ho⟩ := exo_at I.hok e
  have fin : ∀ h', (∀ b o, b ≠ a → s.heap.get? b = some o → h'.get? b = some o) → h'.get? a = some ({ cls := .ref C, dict := none, data := .fields #[.ref s.heap.objs.size, .none, .none, .none, .bool false, .none] } : Obj) → Q .none { s with heap := h' } := fun h' k hx => by
    have J := I.write (t' := s.toks) (x := a) (e := a) (o := exo a C none) (by rw [e]; exact True.intro) (.inl rfl) k ⟨_, hx⟩ (exo_ok hx)
    have eu : upd H a (exo a C none) = H := by
      funext b
      by_cases hb : b = a
      · rw [hb, upd_same, e]
      · rw [upd_ne hb]
    rw [eu] at J
    exact h _ J
  obtain ⟨hp, g, d, t, os⟩ := s
  refine wpAny_call (codeAny_of_tree ?_)
  show wpAny _ A.in1 (callAny (.ref u) ⟨us, []⟩) _ _ _
  simp only [callAny]
  refine wpAny_bind (wpAny_load hu ?_)
  have hmw : (Value.type "method-wrapper" == Value.type "method" || Value.type "method-wrapper" == Value.type "builtin_function_or_method" || Value.type "method-wrapper" == Value.type "method-wrapper") = true := by decide
  simp only [PySem.W.kxs_mw, hmw, if_true]
  refine PySem.W.KFB.if_so (by decide) ?_
  refine wpAny_bind (PySem.W.check_bound_init F.excBase_ValueError.toExcCallFacts (I.kIn _ _ hC) ho rfl ?_)
  refine wpAny_bind (wpAny_pure (wpAny_pure ?_))
  refine ⟨plainId_quiet F.excBase_ValueError.init.plain _, codeAny_builtin F.excBase_ValueError.initEntry ?_⟩
  refine PySem.W.exc_init_tree (cls := .ref C) (t0 := t1) (dv := none) (c2 := .none) (c3 := .none) (b4 := .bool false) ho hl fun h' k hx _ => ?_
  exact fin h' k hx
/-- o.name(..), o looked at where the call's own code is -/
theorem at_mcall {M : Model} {A : Around} {c : Code} {E : Value → Shared → Prop} {s : Shared} {env : PySem.Env} {o : Expr} {name : Str} {apos pos : Pos} {es : List Expr} {Q : Value → Shared → Prop} (hline : apos.endLine = pos.line)
    (hform : methodCallForm (es.length + ([] : List Keyword).length) (backTo pos (starEach es env)) (backToKw pos (keywordEach [] env)) = true)
    (h : _root_.PySem.wpAt M A c (attributeBase o name env (eval o env)) (fun ov s1 => wpAny M A (getMethod ov name (do return (← importBound o env).getD true)) (fun fx s2 => wpAny M A (callWith pos fx.1 fx.2 (backTo pos (starEach es env)) []) Q E s2) E s1) E s) :
    _root_.PySem.wpAt M A c (eval (.Call (.Attribute o name apos) es [] pos) env) Q E s := by
  have hpos : methodCallPos true o env apos pos = pure pos := by unfold methodCallPos; simp [hline]
  rw [arm_eval_Call]
  refine _root_.PySem.wpAt_bind (ks_wpAt_mono h (fun ov s1 h1 => _root_.PySem.wpAt_of_wpAny (wpAny_bind (wpAny_standAt ?_))) fun _ _ x => x)
  unfold methodCall
  rw [hform]
  refine wpAny_bind (wpAny_holding (wpAny_mono h1 (fun fx s2 h2 => ?_) fun _ _ x => x))
  exact wpAny_bind (wpAny_of_eq hpos h2)
/-- .. its first row: super().__init__(text + str(place)) -/
theorem init_row1 {C fI cc cda : Addr} {st : Stmt} {msg : Str} {qual : Str} {A : Around} {outer : List PySem.Env} {s s1 : Shared} {H : Hp} {xe : Value → Shared → Prop} {a : Addr} {i : Int} {body : List Stmt} {p0 p1 p2 p3 p4 p5 p6 p7 p8 p9 : Pos} {k : Nat} {Q : Flow → Shared → Prop}
    (T : BadT st msg) (B : BadC P K st C fI cc cda) (hpos : p2.endLine = p8.line) (hs : mg "super" = none) (ht : mg "str" = none) (hi : i.natAbs < 1000000) (ha : H a = some (exo a C none))
    (I : Inv (cxI P w K mg base qual (defScope st) fI cc (.ref cda) A outer s H xe) [] [some (.ref a), some (.int i)] H s1)
    (h : ∀ s', Inv (cxI P w K mg base qual (defScope st) fI cc (.ref cda) A outer s H xe) [] [some (.ref a), some (.int i)] H s' → Q .next s') :
    _root_.PySem.wpAt (model P w) (A.deeper (PySem.W.ksEnv qual (defScope st) s.heap.objs.size fI (.ref cda) cc)) (.func body (PySem.W.ksEnv qual (defScope st) s.heap.objs.size fI (.ref cda) cc))
      (exec (.Expr (.Call (.Attribute (.Call (.Name "super" p0) [] [] p1) "__init__" p2) [.BinOp (.Constant (.str msg) k p3) .Add (.Call (.Name "str" p4) [.Name "place" p5] [] p6) p7] [] p8) p9) (PySem.W.ksEnv qual (defScope st) s.heap.objs.size fI (.ref cda) cc)) Q xe s1 := by
  obtain ⟨oc, od, osl, qual', kV, doc, pm, an, ct, lk, hcd⟩ := B.fn
  obtain ⟨ccl, cdd, vs0, ccs, file, tf, hcda, hvs0, hfile⟩ := B.code
  obtain ⟨cl, cld, csl, hcell⟩ := B.cell
  obtain ⟨cd, hD⟩ := B.cls
  obtain ⟨a1, a2, hargs, ha1, ha2⟩ := T.args
  have KX := I.kIn
  obtain ⟨oD, hD1, hD2⟩ : ∃ oD, s1.heap.get? C = some oD ∧ oD.data = .cls cd := by
    have hD' := hD
    unfold PySem.W.clsIn at hD'
    split at hD'
    · rename_i c d cd' sl ho
      cases hD'
      exact ⟨_, KX _ _ ho, rfl⟩
    · cases hD'
  obtain ⟨t1, hoa⟩ := exo_at I.hok ha
  obtain ⟨m, hns, hl⟩ := id I.loc
  obtain ⟨v0, rv0, lk0⟩ := hl 0 "self" (.ref a) rfl rfl (.inl T.n1)
  obtain rfl : v0 = .ref a := rv0
  have hms : m "self" = some (.ref a) := by
    rcases lk0 with ⟨_, z⟩ | ⟨z, _⟩
    · exact z
    · have e1 : (defScope st).names.lookup ("self" : Str) = some .local := T.n1
      rcases z with z | z
      · exact absurd (e1.symm.trans z) (by decide)
      · exact absurd (e1.symm.trans z) (by decide)
  obtain ⟨mb, hb1, hb2⟩ := I.mod.blt
  have hsh : Env.kindOf (PySem.W.ksEnv qual (defScope st) s.heap.objs.size fI (.ref cda) cc) "super" = some .globalImplicit := T.n4
  have hch : Env.kindOf (PySem.W.ksEnv qual (defScope st) s.heap.objs.size fI (.ref cda) cc) "__class__" = some .free := T.n3
  refine ks_wpAt_Expr_any (env := PySem.W.ksEnv qual (defScope st) s.heap.objs.size fI (.ref cda) cc) (at_mcall hpos rfl ?_) I.quiet rfl
  refine ks_wpAt_super_base (env := PySem.W.ksEnv qual (defScope st) s.heap.objs.size fI (.ref cda) cc) (ar := a1) (fd := PySem.W.ksFn "__init__" qual' (defArgs st) (defBody st) (defScope st) .none kV doc pm an (.ref cda) ct cc) hsh hch (by decide) rfl (KX _ _ lk) rfl (by show ((defArgs st).posonlyargs ++ (defArgs st).args).head? = _; rw [hargs]; rfl) rfl (KX _ _ hcda) rfl hvs0 hfile B.top ?_
  refine PySem.W.ks_loadName_global T.kind hsh (Calls.loadGlobal_builtin (env := PySem.W.ksEnv qual (defScope st) s.heap.objs.size fI (.ref cda) cc) (I.mod.glob.keeps I.bk) hs (hb1.keeps I.bk) ((hb2 _ (by decide)).trans PyProof.Rows.Boot.«super») ⟨rfl, ?_⟩)
  refine wpAny_loadName_free T.kind hch rfl ⟨_, KX _ _ hcell, rfl⟩ ?_
  rw [ha1]
  refine wpAny_loadName_local T.kind T.n1 hns hms ?_
  have InA : PySem.W.InstAt s1.heap a { cls := .ref C, dict := none, data := .fields #[.ref t1, .none, .none, .none, .bool false, .none] } C none := ⟨hoa, rfl, rfl, trivial⟩
  have hxC : a ≠ C := PySem.W.ks_ne KX InA hD
  obtain ⟨hp, g, d, tk, os⟩ := s1
  refine ks_wpAny_isType_cls hD1 hD2 ⟨rfl, ?_⟩
  refine ks_wpAny_call_super hD1 hD2 hoa rfl (fun c z => by cases z) (PySem.W.looks_mroIn KX B.sub) fun h2 hso hk2 => ?_
  have I2 : Inv (cxI P w K mg base qual (defScope st) fI cc (.ref cda) A outer s H xe) [] [some (.ref a), some (.int i)] H ⟨h2, g, d, tk, os⟩ := I.kept (t' := tk) hk2
  have K2 := I2.kIn
  have InA2 : PySem.W.InstAt h2 a { cls := .ref C, dict := none, data := .fields #[.ref t1, .none, .none, .none, .bool false, .none] } C none := ⟨hk2 _ _ hoa, rfl, rfl, trivial⟩
  have hsup := B.sup
  unfold PySem.W.ks_superIn at hsup
  rw [hD] at hsup
  refine PySem.W.kxs_getMethod PySem.W.kxs_ValueError hso (PySem.W.looks_opaque K2 B.tp) (l₀ := cd.mro) (fun A Q E s k q => wpAny_bind ((PySem.W.looks_clsIn K2 hD) A _ E s k (wpAny_pure q))) rfl K2 hsup (InA2.type.andThen (PySem.W.looks_subIn K2 B.ve)) hxC (by decide) ?_
  have hpu : (h2.push (PySem.W.kxs_mw "ValueError.__init__" a)).get? h2.objs.size = some (PySem.W.kxs_mw "ValueError.__init__" a) := Heap.get?_push_at rfl rfl
  have I3 : Inv (cxI P w K mg base qual (defScope st) fI cc (.ref cda) A outer s H xe) [] [some (.ref a), some (.int i)] H ⟨h2.push (PySem.W.kxs_mw "ValueError.__init__" a), g, d, tk + 1, os⟩ := I2.kept (t' := tk + 1) fun b o e => Heap.get?_push_of_some _ e
  have lt2 := I2.lt
  have I4 : Inv (cxI P w K mg base qual (defScope st) fI cc (.ref cda) A outer s H xe) [(h2.objs.size, PySem.W.kxs_mw "ValueError.__init__" a)] [some (.ref a), some (.int i)] H ⟨h2.push (PySem.W.kxs_mw "ValueError.__init__" a), g, d, tk + 1, os⟩ := I3.pins_of fun p hp => by
    obtain rfl := List.mem_singleton.mp hp
    refine ⟨hpu, I2.hok.fresh (Nat.le_refl _), fun z => ?_, fun z => ?_, fun v z => by cases z⟩
    · have : (cxI P w K mg base qual (defScope st) fI cc (.ref cda) A outer s H xe).env.locals < h2.objs.size := lt2
      rw [← z] at this; exact absurd this (Nat.lt_irrefl _)
    · obtain ⟨_, o, e, _⟩ := Heap.FunFrames.mem I2.stack.2.2 (b := h2.objs.size) z
      exact absurd (Heap.lt_size e) (Nat.lt_irrefl _)
  show wpAny _ _ (callWith p8 (.ref h2.objs.size) [] (backTo p8 (starEach [.BinOp (.Constant (.str msg) k p3) .Add (.Call (.Name "str" p4) [.Name "place" p5] [] p6) p7] (PySem.W.ksEnv qual (defScope st) s.heap.objs.size fI (.ref cda) cc))) []) _ _ _
  refine PySem.W.kxs_callWith (i := "ValueError.__init__") (x := a) rfl (Calls.evalArgs_plain ?_)
  have hg : Gl (cxI P w K mg base qual (defScope st) fI cc (.ref cda) A outer s H xe) "str" := T.n5
  have pe : PE (cxI P w K mg base qual (defScope st) fI cc (.ref cda) A outer s H xe) (.BinOp (.Constant (.str msg) k p3) .Add (.Call (.Name "str" p4) [.Name "place" p5] [] p6) p7) _ :=
    pe_op op_add_str pe_str (pe_callTy call_str_int hg ht PyProof.Rows.Boot.«str» (pa_cons (pe_var (i := 1) rfl (.inl T.n2)) pa_nil))
  refine thn ((pa_cons pe pa_nil).run p8 _ _ _ _ (fun vs H' => H' = H ∧ vs.length = 1) I4 ?_) fun us s2 ⟨vs, H2, J, rv, hH, hlen⟩ => ?_
  · have h1 := PyProof.Rows.len_str_of_int i
    have h2 := T.few
    refine ⟨.int i, rfl, i, rfl, ?_, msg, toString i, rfl, rfl, ?_, rfl, rfl⟩
    · exact PyProof.Rows.shown_abs (N := 1000000) (by split <;> omega) (by decide +kernel)
    · rw [sizeLine_eq]
      have h3 : ((toString i : Str).length : Int) ≤ i.natAbs + 2 := h1
      omega
  · subst hH
    have hu := (J.pin (h2.objs.size, PySem.W.kxs_mw "ValueError.__init__" a) (by simp [cxI])).1
    exact ⟨hu, mw_call B.o (J.pins_of (pins' := []) fun p hp => by cases hp) ha hu (by show us.length ≤ sizeLine; rw [← rv.length, hlen, sizeLine_eq]; decide) fun s' J' => h s' J'⟩
/-- THE WALK of such an __init__ -/
theorem init_ok {C fI cc cda : Addr} {st : Stmt} {msg : Str} (T : BadT st msg) (B : BadC P K st C fI cc cda) (hs : mg "super" = none) (ht : mg "str" = none) :
    ∃ fd, FnOk P w K mg base (L2.CX P w) 1 fI fd ["self", "place"] (spInit C) ∧ Binds K fd ["self", "place"] [] := by
  obtain ⟨oc, od, osl, qual, kV, doc, pm, an, ct, lk, hcd⟩ := B.fn
  obtain ⟨ccl, cdd, vs0, ccs, file, tf, hcda, hvs0, hfile⟩ := B.code
  obtain ⟨cl, cld, csl, hcell⟩ := B.cell
  obtain ⟨cd, hD⟩ := B.cls
  refine ⟨_, ⟨fun vs H Q E q => ?_, fun A outer s H args us vs Q E hr e0 hb r hsp => ?_⟩, Binds.all (fd := PySem.W.ksFn "__init__" qual (defArgs st) (defBody st) (defScope st) .none kV doc pm an (.ref cda) ct cc) fun us hl => T.b _ _ _ _ _ _ _ _ _ us hl⟩
  · obtain ⟨a, i, rfl, _⟩ := q
    rfl
  obtain ⟨a, i, rfl, hi, ha, hq⟩ := hsp
  obtain ⟨u0, us1, rfl, r0, r1⟩ : ∃ u0 us1, us = u0 :: us1 ∧ RelV (.ref a) u0 ∧ Vals [.int i] us1 := by cases r with | cons x y => exact ⟨_, _, rfl, x, y⟩
  obtain ⟨u1, us2, rfl, r2, r3⟩ : ∃ u1 us2, us1 = u1 :: us2 ∧ RelV (.int i) u1 ∧ Vals [] us2 := by cases r1 with | cons x y => exact ⟨_, _, rfl, x, y⟩
  obtain rfl : us2 = [] := by cases r3; rfl
  obtain rfl : u0 = .ref a := r0
  obtain ⟨tk, rfl⟩ := r2
  have KX : K.In s.heap := e0.mod.kin.keeps fun b o e => (e0.bs b o e).1
  have lim : s.heap.NoLimit := e0.mod.nolimit.keeps fun b o e => (e0.bs b o e).1
  obtain ⟨p0, p1, p2, k, p3, p4, p5, p6, p7, p8, p9, p10, p11, p12, p13, hbody, hpos⟩ := T.body
  obtain ⟨a1, a2, hargs, ha1, ha2⟩ := T.args
  refine ks_codeAny_call_defAt (fd := PySem.W.ksFn "__init__" qual (defArgs st) (defBody st) (defScope st) .none kV doc pm an (.ref cda) ct cc) hr.depth (KX _ _ lk) rfl lim (PySem.W.codeRec_of KX hcd) rfl hb (fun x hx z => ?_) (fun x hx => ?_) (fun h1 hns hk => ?_) T.co T.gen T.kind
  · have := List.all_eq_true.mp T.n6 x hx
    rw [z] at this
    simp at this
  · simp at hx
    rcases hx with rfl | rfl
    · exact T.n1
    · exact T.n2
  let xe : Value → Shared → Prop := fun e s' => wpAny (model P w) (A.deeper (PySem.W.ksEnv qual (defScope st) s.heap.objs.size fI (.ref cda) cc)) (leaving (PySem.W.ksEnv qual (defScope st) s.heap.objs.size fI (.ref cda) cc) e) (fun _ s'' => CR (L2.CX P w) outer P w H s Q E (.error e) s'') (fun e' s'' => CR (L2.CX P w) outer P w H s Q E (.error e') s'') s'
  have I0 := inv_init (i := i) (u := tk) (tk := s.toks + 2) (qual := qual) (f := fI) (cd := .ref cda) (xe := xe) T hcell rfl hr.hd e0 hns hk
  have hno : PySem.W.findIn K (.ref C) "place" = some none := B.pl
  have st2 := pss_cons (ps_ost (X := cxI P w K mg base qual (defScope st) fI cc (.ref cda) A outer s H xe) (f := "place") (p' := p11) (pos := p13) (pe_var (pos := p10) (i := 0) rfl (.inl T.n1)) (pe_var (pos := p12) (i := 1) rfl (.inl T.n2))) pss_nil
  have go : _root_.PySem.wpAt (model P w) (A.deeper (PySem.W.ksEnv qual (defScope st) s.heap.objs.size fI (.ref cda) cc)) (.func (defBody st) (PySem.W.ksEnv qual (defScope st) s.heap.objs.size fI (.ref cda) cc))
      (execs (defBody st) (PySem.W.ksEnv qual (defScope st) s.heap.objs.size fI (.ref cda) cc)) (SP (cxI P w K mg base qual (defScope st) fI cc (.ref cda) A outer s H xe) [] { nx := fun _ H' => Q .non H', rt := Q }) xe { s with heap := h1, toks := s.toks + 2 } := by
    rw [hbody]
    refine ks_wpAt_execs_cons (init_row1 T B hpos hs ht hi ha I0 fun s' J => ?_)
    exact _root_.PySem.wpAt_of_wpAny (st2.run [] s' _ H _ J ⟨.int i, rfl, .ref a, rfl, a, C, rfl, B.o, hno, .inl ⟨ha, fun dx n ne => hq dx n ne⟩⟩)
  refine ks_wpAt_mono go (fun fl s' hs => ?_) fun e s' hs => hs
  have fin : ∀ {σ' : L2.St} {H' : Hp} {v : V} {u : Value}, Inv (cxI P w K mg base qual (defScope st) fI cc (.ref cda) A outer s H xe) [] σ' H' s' → RelV v u → Q v H' → CE outer P w H s Q u s' :=
    fun {σ' H' v u} J rv q => ⟨v, H', J.os, J.bare, J.base, J.hok, rv, q⟩
  cases fl with
  | ret u =>
    obtain ⟨v, σ', H', J, rv, q⟩ := hs
    exact fin J rv q
  | next =>
    obtain ⟨σ', H', J, q⟩ := hs
    exact fin (v := V.non) (u := Value.none) J rfl q
  | brk =>
    obtain ⟨_, _, _, q⟩ := hs
    exact False.elim q
  | cont =>
    obtain ⟨_, _, _, q⟩ := hs
    exact False.elim q
end
end Mp

set_option Elab.async false
set_option linter.all false
set_option maxRecDepth 100000
set_option maxHeartbeats 4000000
/-! enumerate over a tuple. -/
namespace Mp
open PySem PySem.Spec PyProof.Rows L2
theorem enum_of_tup (l : Addr) (items : Array Value) :
    Meets (Builtin.«enumerate.__new__» ⟨[.type "enumerate", .ref l], []⟩) (fun _ R s => s.heap.IsTuple l items ∧
      R (.ok (.ret (.ref (s.heap.push { cls := .type "tuple_iterator", data := .fields #[.ref l, .int 0 0] }).objs.size)))
        { s with heap := (s.heap.push { cls := .type "tuple_iterator", data := .fields #[.ref l, .int 0 0] }).push { cls := .type "enumerate", data := .fields #[.none, .bool false, .ref s.heap.objs.size, rawInt 0, .none, .none] } }) :=
  .of_wp fun prog w A R s h => by
    obtain ⟨hp, g, d, tk, os⟩ := s
    obtain ⟨hl, h⟩ := h
    have hs := sub_enumerate
    obtain ⟨ol, ho, hc, n, hd⟩ := id hl
    wp_walk using AutoSeq1.wpAny_loadPart' ho
    refine wpAny_stack_any fun st => wpAny_pure ?_
    split
    · rename_i c _ _ _ _ _
      cases (c == Value.type "enumerate")
      · wp_walk using AutoSeq1.wpAny_loadPart' ho, wpAny_pyIter_tuple hl
        exact ⟨_, rfl, h⟩
      · wp_walk using AutoSeq1.wpAny_loadPart' ho, wpAny_pyIter_tuple hl
        exact ⟨_, rfl, h⟩
    · wp_walk using AutoSeq1.wpAny_loadPart' ho, wpAny_pyIter_tuple hl
      exact ⟨_, rfl, h⟩
section
variable {prog : Program} {w : World} {A : Around} {E : Value → Shared → Prop} {s : Shared}
theorem call_enum_tup {l : Addr} {items : Array Value} {Q : Value → Shared → Prop} (hL : s.heap.IsTuple l items)
    (h : ∀ h', IsEnum h' (s.heap.objs.size + 1) s.heap.objs.size 0 .none → h'.IsTupleIter s.heap.objs.size l 0 → (∀ b o, s.heap.get? b = some o → h'.get? b = some o) → Q (.ref (s.heap.objs.size + 1)) { s with heap := h' }) :
    wpAny (model prog w) A (call (.type "enumerate") [.ref l]) Q E s := by
  have hz : (s.heap.push { cls := .type "tuple_iterator", data := .fields #[.ref l, .int 0 0] }).objs.size = s.heap.objs.size + 1 := Heap.size_push ..
  refine callType_new F.called_enumerate (by decide) (F.typeCall_enumerate_1 _) (F.newCall_enumerate_1 _) (fun obj => F.args_object_init_2 obj _) F.entry_enumerate_new (enum_of_tup l items) ⟨hL, ?_⟩
  show _ ∧ _
  rw [hz]
  have he : IsEnum ((s.heap.push { cls := .type "tuple_iterator", data := .fields #[.ref l, .int 0 0] }).push
      { cls := .type "enumerate", data := .fields #[.none, .bool false, .ref s.heap.objs.size, rawInt 0, .none, .none] }) (s.heap.objs.size + 1) s.heap.objs.size 0 .none := by
    have z := Heap.get?_push_size (s.heap.push { cls := .type "tuple_iterator", data := .fields #[.ref l, .int 0 0] }) (o := { cls := .type "enumerate", data := .fields #[.none, .bool false, .ref s.heap.objs.size, rawInt 0, .none, .none] }) rfl
    rw [hz] at z; exact z
  exact ⟨⟨_, he, rfl⟩, h _ he ⟨_, Heap.get?_push_of_some _ (Heap.get?_push_size _ rfl), rfl, rfl⟩ fun b o x => Heap.get?_push_of_some _ (Heap.get?_push_of_some _ x)⟩
theorem next_enum_tup_end {e it l : Addr} {i : Nat} {items : Array Value} {old : Value} {Q : Option Value → Shared → Prop} (hh : A.handled = none) (he : IsEnum s.heap e it i old) (hit : s.heap.IsTupleIter it l i) (hl : s.heap.IsTuple l items) (hx : items[i]? = none)
    (hQ : ∀ h', Heap.ExtBut it s.heap h' → Q none { s with heap := h' }) : wpAny (model prog w) A (pyNext (.ref e)) Q E s := by
  have hT : s.TypeIs (.ref e) "enumerate" := ⟨_, he, rfl⟩
  unfold pyNext
  refine wpAny_bind (wpAny_attempt (wpAny_callSpecial?_slot (name := Str.ofString "__next__") hT F.slot_enumerate_next (wpAny_call_entry F.slot_enumerate_next hT F.entry_enumerate_next ?_ (F.args_enumerate_next_1 _))))
  show wpAny _ _ (field (.ref e) 2 >>= _) _ _ _
  refine wpAny_bind (wpAny_field he rfl (x := .ref it) rfl (wpAny_bind (wpAny_nextOf_tuple_end hh hit hl hx fun h' x he' ⟨o, ho, hc⟩ => ?_)))
  exact wpAny_bind (wpAny_isInstance (T := "StopIteration") (b := true) ⟨o, ho, hc⟩ isSubtype_stop (wpAny_pure (hQ _ he')))
end
/-- the tuple at a, each item in a new pair -/
def IteT (K : PySem.W.Frag) (a : Addr) : L2.It :=
  ⟨fun i H => ∃ (xs : List V) (x : V), SqT K H a xs ∧ xs[i]? = some x, fun i H v H' => ∃ T x, v = .ref T ∧ H T = none ∧ H' = upd H T (.tup [.int (i : Nat), x]) ∧ ∀ xs, SqT K H a xs → xs[i]? = some x, fun i H => ∃ xs : List V, SqT K H a xs ∧ xs.length ≤ i⟩
theorem turn_enumT {P : Program} {w : World} {K : PySem.W.Frag} {elts : List Expr} {kk : Nat} {tpos : Pos} (a e it : Addr) (hia : it ≠ a) (hea : e ≠ a) :
    Turn P w K (.Tuple elts kk tpos) (IteT K a) [e, it] e (fun i h => (∃ old, IsEnum h e it ((i : Nat) : Int) old) ∧ h.IsTupleIter it a i ∧ e ≠ it) where
  mem := by simp
  obj := fun i h st b hb => by
    obtain ⟨⟨old, he⟩, ⟨o, ho, hc, hd⟩, _⟩ := st
    have e' : b = e ∨ b = it := by simpa using hb
    rcases e' with z | z
    · rw [z]; exact ⟨_, he, fun v q => nomatch q⟩
    · rw [z]; exact ⟨o, ho, fun v q => by rw [hd] at q; cases q⟩
  keep := fun i h h' st k => let ⟨⟨old, he⟩, hi, hne⟩ := st; ⟨⟨old, k e (by simp) _ he⟩, hi.at fun o q => k it (by simp) o q, hne⟩
  item := by
    intro X hP hw hK hc i pins s σ H E I hf st hg
    subst hP hw hK
    obtain ⟨⟨old, he⟩, hit, hne⟩ := st
    obtain ⟨xs, x, hq, hx⟩ := hg
    obtain ⟨its, rv, p, hz⟩ := I.tuple hq
    obtain ⟨u, hu, ru⟩ := rv.get hx
    have p : s.heap.IsTuple a its.toArray := p
    have hel : e < s.heap.objs.size := Heap.lt_size he
    have hil : it < s.heap.objs.size := by obtain ⟨_, q, _⟩ := hit; exact Heap.lt_size q
    have hlt : i < its.toArray.size := by
      have := (List.getElem?_eq_some_iff.mp hu).1
      simpa using this
    refine wpAny_pyNext_enum_itemD (Draws.tuple (prog := X.prog) (w := X.w) (A := X.A.in1) (I.ok.hd hc) it a (Ne.symm hia) its.toArray) he ⟨hit, p⟩ hlt hne (by simp [hne, hea]) fun y h' tk hy ho hst hT hsz hk => ?_
    have hy : its.toArray[i]? = some y := hy
    obtain rfl : y = u := by
      have : its.toArray[i]? = some u := by simpa using hu
      rw [this] at hy; exact (Option.some.inj hy).symm
    refine ⟨_, rfl, wpAny_letOwnedTupleGo_enum (s := { s with heap := h', toks := tk + 1 }) ho fun h'' he' sb => ?_⟩
    have hT2 : h''.get? s.heap.objs.size = some { cls := .type "tuple", data := .seq #[.int i tk, y] } := (sb.2 _ (Nat.ne_of_gt hel)).trans hT
    have new : ObjOk X.prog X.w (upd H s.heap.objs.size (.tup [.int (i : Nat), x])) h'' s.heap.objs.size (.tup [.int (i : Nat), x]) :=
      ⟨by show 2 ≤ sizeLine; decide, [.int i tk, y], .cons ⟨_, rfl⟩ (.cons ru .nil), ⟨_, hT2, rfl, _, rfl⟩⟩
    have I1 : Inv X pins σ (upd H s.heap.objs.size (.tup [.int (i : Nat), x])) { s with heap := h'', toks := tk + 1 } :=
      I.turnedNew (t' := tk + 1) (ch := [e, it]) (fun b ob hb q => (sb.2 b (fun z => hb (by simp [z]))).trans (hk b ob (fun z => hb (by simp [z])) (fun z => hb (by simp [z])) q)) hf (Nat.le_refl _) new
    refine ⟨.ref s.heap.objs.size, _, I1, rfl, ⟨_, x, rfl, I.hok.fresh (Nat.le_refl _), rfl, fun ys hy => by rw [I.tuple_inj hy hq]; exact hx⟩, ⟨⟨y, ?_⟩, hst.1.at fun o q => (sb.2 it (Ne.symm hne)).trans q, hne⟩, fun b hb => ?_⟩
    · have e1 : ((i + 1 : Nat) : Int) = (i : Int) + 1 := by omega
      rw [e1]; exact he'
    · have hb' : b < s.heap.objs.size := by
        have e' : b = e ∨ b = it := by simpa using hb
        rcases e' with z | z
        · rw [z]; exact hel
        · rw [z]; exact hil
      rw [upd_ne (Nat.ne_of_lt hb')]
      exact (hf b hb).1
  done := by
    intro X hP hw hK hc i pins s σ H E I hf st hg
    subst hP hw hK
    obtain ⟨⟨old, he⟩, hit, hne⟩ := st
    obtain ⟨xs, hq, hx⟩ := hg
    obtain ⟨its, rv, p, hz⟩ := I.tuple hq
    have p : s.heap.IsTuple a its.toArray := p
    obtain ⟨f0, f1, f2, f3, f4, f5⟩ := hf it (by simp)
    have hl := rv.length
    exact next_enum_tup_end (I.ok.hd hc) he hit p (by simp; omega) fun h' eb => ⟨rfl, I.turned (t' := s.toks) (fun b o hb q => eb b o hb q) f0 f1 f3 f4 f5⟩
  self := fun A i s Q E st h => let ⟨⟨_, he⟩, _⟩ := st; wpAny_pyIter_enum he h
def iEnumT (K : PySem.W.Frag) (ta : TA) : TI := fun σ H R => ta σ H fun vs H1 => ∃ a, vs = [.ref a] ∧ ((∃ xs, SqL K H1 a xs ∧ R (Ite K a) H1) ∨ ∃ xs, SqT K H1 a xs ∧ R (IteT K a) H1)
theorem pi_enumT {X : Cx} {e : Expr} {ta : TA} {p pos tpos : Pos} {elts : List Expr} {kk : Nat} (hg : Gl X "enumerate") (hm : X.mg "enumerate" = none) (ha : PA X [e] ta) (hs : starEach [e] X.env = [(false, eval e X.env)] := by rfl) :
    PI X (.Tuple elts kk tpos) (.Call (.Name "enumerate" p) [e] [] pos) (iEnumT X.K ta) := by
  refine ⟨fun pins s σ H R I h => ?_⟩
  refine Call_ (ld_blt I hg hm boot_enumerate (PyProof.Rows.callWith_type1 (thn (ha.run pos pins s σ H _ I h) fun us s1 ⟨vs, H1, I1, r1, q1⟩ => ?_) hs rfl))
  obtain ⟨a, ex, q⟩ := q1
  subst ex
  cases r1 with
  | cons r rr =>
    cases rr
    cases r
    have fp : ∀ b ∈ [s1.heap.objs.size + 1, s1.heap.objs.size], FpOk X pins H1 b := fun b hb => by
      have e' : b = s1.heap.objs.size + 1 ∨ b = s1.heap.objs.size := by simpa using hb
      have hle : s1.heap.objs.size ≤ b := by
        rcases e' with z | z
        · rw [z]; exact Nat.le_add_right _ _
        · rw [z]; exact Nat.le_refl _
      exact I1.fpOk hle (I1.hok.fresh hle)
    rcases q with ⟨xs, hq, q⟩ | ⟨xs, hq, q⟩
    · obtain ⟨its, rv, p', hz⟩ := I1.list hq
      refine call_enumerate_list p'.isList fun h' he hit hsz hk => wpAny_pyIter_enum he ?_
      have I2 : Inv X pins σ H1 { s1 with heap := h' } := I1.kept (t' := s1.toks) hk
      exact ⟨s1.heap.objs.size + 1, [s1.heap.objs.size + 1, s1.heap.objs.size], _, _, H1, rfl, I2, turn_enum a (s1.heap.objs.size + 1) s1.heap.objs.size, ⟨⟨.none, he⟩, hit, Nat.succ_ne_self _⟩, fp, q⟩
    · obtain ⟨its, rv, p', hz⟩ := I1.tuple hq
      have p' : s1.heap.IsTuple a its.toArray := p'
      have hlt : a < s1.heap.objs.size := by obtain ⟨o, ho, _⟩ := p'; exact Heap.lt_size ho
      refine call_enum_tup p' fun h' he hit hk => wpAny_pyIter_enum he ?_
      have I2 : Inv X pins σ H1 { s1 with heap := h' } := I1.kept (t' := s1.toks) hk
      exact ⟨s1.heap.objs.size + 1, [s1.heap.objs.size + 1, s1.heap.objs.size], _, _, H1, rfl, I2, turn_enumT a (s1.heap.objs.size + 1) s1.heap.objs.size (Nat.ne_of_gt hlt) (Nat.ne_of_gt (Nat.lt_succ_of_lt hlt)), ⟨⟨.none, he⟩, hit, Nat.succ_ne_self _⟩, fp, q⟩
end Mp

set_option Elab.async false
set_option linter.all false
set_option maxRecDepth 100000
/-! More operations over data: products, truth, items, slices, built-in functions. -/
namespace Mp
open PySem PySem.Spec PyProof.Rows L2

theorem Reps.flatten {K : PySem.W.Frag} {F : Hp} {A : List Addr} {vs : List V} {ds : List D} (h : Reps K F A vs ds) : ∀ k : Nat, Reps K F A (List.replicate k vs).flatten (List.replicate k ds).flatten
  | 0 => .nil
  | k + 1 => by
    rw [List.replicate_succ, List.replicate_succ, List.flatten_cons, List.flatten_cons]
    exact h.append (Reps.flatten h k)
section
variable {X : Cx} {CA : Str → Option Addr}
theorem mul_ok : ∃ r, OpR X (binaryOp .Mult) r ∧ Op2 X.K CA r mulD := by
  refine ⟨_, OpR.or op_mul (OpR.or op_rep op_repA), ?_⟩
  intro W σ H env obs x y a b d Q S rx ry e q
  unfold mulD at e
  split at e
  · split at e
    · rename_i h; cases e; cases rx; cases ry
      refine .inl ⟨_, _, rfl, rfl, ?_, q _ W H .refl S (.int _)⟩
      unfold mulOk at h
      rw [Bool.or_eq_true] at h
      rcases h with h | h
      · exact .inl (natAbs_lt (of_decide_eq_true h))
      · exact .inr (natAbs_lt (of_decide_eq_true h))
    · cases e
  · split at e
    · rename_i h; cases e; cases ry
      rw [Bool.and_eq_true] at h
      obtain ⟨p, vs, rfl, h1, r1⟩ := S.lst rx
      have h2 := of_decide_eq_true h.1
      exact .inr (.inl ⟨p, _, vs, rfl, rfl, h1, h2.1, h2.2, by rw [r1.length]; exact of_decide_eq_true h.2, GP.lst S q (r1.flatten _)⟩)
    · cases e
  · split at e
    · rename_i ds k h; cases e; cases ry
      rw [Bool.and_eq_true] at h
      obtain ⟨p, vs, rfl, h1, r1⟩ := S.tup rx
      have h2 := of_decide_eq_true h.1
      refine .inr (.inr ⟨p, _, vs, rfl, rfl, h1, h2.1, h2.2, by rw [r1.length]; exact of_decide_eq_true h.2, fun z => ?_, fun _ => GP.tup S q (r1.flatten _)⟩)
      rcases z with z | z
      · subst z; cases r1
        have e0 : (List.replicate k.toNat ([] : List D)).flatten = [] := by simp
        rw [e0] at q
        exact q _ W H .refl S rx
      · subst z
        have e0 : (List.replicate (1 : Int).toNat ds).flatten = ds := by simp
        rw [e0] at q
        exact q _ W H .refl S rx
    · cases e
  · cases e
theorem bin_ok : ∀ op : Operator, (∃ r, OpR X (binaryOp op) r ∧ Op2 X.K CA r (binD op))
  | .Add => add_ok
  | .Sub => sub_ok
  | .Mult => mul_ok
  | .FloorDiv => div_ok
  | .Mod => mod_ok
  | .Pow => pow_ok
  | .LShift => shl_ok
  | .MatMult => ⟨fun _ _ _ _ => False, fun _ _ _ _ _ _ _ _ _ _ _ _ h => h.elim, fun _ _ _ _ _ _ _ _ _ _ _ _ _ _ e => by cases e⟩
  | .Div => ⟨fun _ _ _ _ => False, fun _ _ _ _ _ _ _ _ _ _ _ _ h => h.elim, fun _ _ _ _ _ _ _ _ _ _ _ _ _ _ e => by cases e⟩
  | .RShift => ⟨fun _ _ _ _ => False, fun _ _ _ _ _ _ _ _ _ _ _ _ h => h.elim, fun _ _ _ _ _ _ _ _ _ _ _ _ _ _ e => by cases e⟩
  | .BitOr => ⟨fun _ _ _ _ => False, fun _ _ _ _ _ _ _ _ _ _ _ _ h => h.elim, fun _ _ _ _ _ _ _ _ _ _ _ _ _ _ e => by cases e⟩
  | .BitXor => ⟨fun _ _ _ _ => False, fun _ _ _ _ _ _ _ _ _ _ _ _ h => h.elim, fun _ _ _ _ _ _ _ _ _ _ _ _ _ _ e => by cases e⟩
  | .BitAnd => ⟨fun _ _ _ _ => False, fun _ _ _ _ _ _ _ _ _ _ _ _ h => h.elim, fun _ _ _ _ _ _ _ _ _ _ _ _ _ _ e => by cases e⟩
/-- truth -/
theorem Reps.empty {K : PySem.W.Frag} {F : Hp} {A : List Addr} {vs : List V} {ds : List D} (h : Reps K F A vs ds) : ds.isEmpty = vs.isEmpty := by
  cases h <;> rfl
theorem tru_of {K : PySem.W.Frag} {W : Wd} {σ : L2.St} {H : Hp} {env : Env} {obs : Obs} {v : V} {d : D} {k : Bool} (S : SRel K CA W σ H env obs) (r : W.rep K v d) (e : truD d = some k) : TruV K v H k := by
  unfold truD at e
  split at e
  · cases e; cases r; rfl
  · cases e; cases r; rfl
  · cases e; cases r; rfl
  · split at e
    · rename_i h; cases e; cases r; exact ⟨h, rfl⟩
    · cases e
  · cases e
    obtain ⟨p, vs, rfl, h1, r1⟩ := S.tup r
    exact .inr (.inl ⟨vs, h1, by rw [r1.empty]⟩)
  · cases e
    obtain ⟨p, vs, rfl, h1, r1⟩ := S.lst r
    exact .inl ⟨vs, SqL.of h1, by rw [r1.empty]⟩
  · cases e
    cases r with
    | dic h1 h2 h3 =>
      refine .inr (.inr ⟨_, S.fh _ _ h1, ?_⟩)
      rename_i ks p vs
      cases vs with
      | nil => cases ks with
        | nil => rfl
        | cons _ _ => simp at h2
      | cons _ _ => cases ks with
        | nil => simp at h2
        | cons _ _ => rfl
  · cases e
theorem Reps.atI {K : PySem.W.Frag} {F : Hp} {A : List Addr} {vs : List V} {ds : List D} (h : Reps K F A vs ds) {i : Int} {d : D} (e : L2.atI ds i = some d) : ∃ v, L2.atI vs i = some v ∧ Rep K F A v d := by
  unfold L2.atI at e ⊢
  rw [h.length]
  cases q : ixN ds.length i with
  | none => rw [q] at e; simp at e
  | some j =>
    rw [q] at e
    obtain ⟨v, a, b⟩ := h.get (i := j) e
    exact ⟨v, a, b⟩
theorem ix_ok : ∃ r, IxR X r ∧ Op2 X.K CA r ixD := by
  refine ⟨_, ix_seq, ?_⟩
  intro W σ H env obs x y a b d Q S rx ry e q
  unfold ixD at e
  split at e
  · cases ry
    obtain ⟨p, vs, rfl, h1, r1⟩ := S.lst rx
    obtain ⟨v, a1, a2⟩ := r1.atI e
    exact .inl ⟨p, vs, _, v, rfl, rfl, SqL.of h1, a1, q _ W H .refl S a2⟩
  · cases ry
    obtain ⟨p, vs, rfl, h1, r1⟩ := S.tup rx
    obtain ⟨v, a1, a2⟩ := r1.atI e
    exact .inr (.inl ⟨p, vs, _, v, rfl, rfl, h1, a1, q _ W H .refl S a2⟩)
  · split at e
    · rename_i h
      rw [Option.map_eq_some_iff] at e
      obtain ⟨c, e1, rfl⟩ := e
      cases rx; cases ry
      exact .inr (.inr ⟨_, _, c, rfl, rfl, h, e1, q _ W H .refl S (.str _)⟩)
    · cases e
  · cases e
/-- slices -/
theorem Reps.cut {K : PySem.W.Frag} {F : Hp} {A : List Addr} {vs : List V} {ds : List D} (h : Reps K F A vs ds) (lo hi : Option Int) : Reps K F A (cutV vs lo hi) (cutD ds lo hi) := by
  unfold cutV cutD
  rw [h.length]
  exact (h.drop _).take _
theorem cut_whole {ds : List D} {lo hi : Option Int} (h : HT.sIx ds.length 0 lo = 0 ∧ HT.sIx ds.length ds.length hi = ds.length) : cutD ds lo hi = ds := by
  unfold cutD
  rw [h.1, h.2]
  simp
theorem sl_ok : ∃ r, L2.SlR X r ∧ ∀ (W : Wd) (σ : L2.St) (H : Hp) (env : Env) (obs : Obs) (x : V) (a d : D) (lo hi : Option Int) (Q : V → Hp → Prop), SRel X.K CA W σ H env obs → W.rep X.K x a → slD a lo hi = some d →
    (∀ v W' H', W.leE W' H H' → SRel X.K CA W' σ H' env obs → W'.rep X.K v d → Q v H') → r x lo hi H Q := by
  refine ⟨_, L2.SlR.or sl_list (L2.SlR.or sl_tupA C8.sl_txt), ?_⟩
  intro W σ H env obs x a d lo hi Q S rx e q
  unfold slD at e
  split at e
  · cases e
    obtain ⟨p, vs, rfl, h1, r1⟩ := S.lst rx
    exact .inl ⟨p, vs, rfl, SqL.of h1, GP.lst S q (r1.cut _ _)⟩
  · cases e
    rename_i ds
    obtain ⟨p, vs, rfl, h1, r1⟩ := S.tup rx
    refine .inr (.inl ⟨p, vs, rfl, h1, fun z => ?_, fun _ => GP.tup S q (r1.cut _ _)⟩)
    rw [cut_whole (by rw [← r1.length]; exact z)] at q
    exact q _ W H .refl S rx
  · cases e
    cases rx with
    | loc h1 => exact .inl ⟨_, _, rfl, SqL.mono h1 S.fh, GP.lst S q ((Reps.ints _).cut _ _)⟩
  · split at e
    · rename_i h; cases e; cases rx
      exact .inr (.inr ⟨_, rfl, h, q _ W H .refl S (.str _)⟩)
    · cases e
  · cases e
/-! ### built-in functions -/
theorem len_ok : ∃ r, CallR X (.builtin "len") r ∧ Op1 X.K CA r (biD "len") := by
  refine ⟨_, CallR.or call_len call_lenD, ?_⟩
  intro W σ H env obs xs as d Q S rs e q
  cases rs with
  | nil => simp [biD] at e
  | cons r1 r2 =>
    cases r2 with
    | cons _ r3 => cases r3 <;> simp [biD] at e
    | nil =>
      simp only [biD, Option.map_eq_some_iff] at e
      obtain ⟨n, e, rfl⟩ := e
      unfold lenD at e
      split at e
      · split at e
        · rename_i h; cases e; cases r1
          exact .inl ⟨_, _, rfl, ⟨h, rfl⟩, q _ W H .refl S (.int _)⟩
        · cases e
      · cases e
        obtain ⟨p, vs, rfl, h1, r1⟩ := S.tup r1
        exact .inl ⟨_, vs.length, rfl, .inr ⟨vs, h1, rfl⟩, by rw [r1.length]; exact q _ W H .refl S (.int _)⟩
      · cases e
        obtain ⟨p, vs, rfl, h1, r1⟩ := S.lst r1
        exact .inl ⟨_, vs.length, rfl, .inl ⟨vs, SqL.of h1, rfl⟩, by rw [r1.length]; exact q _ W H .refl S (.int _)⟩
      · cases e
        cases r1 with
        | dic h1 h2 h3 =>
          rename_i ks p vs
          have hl : vs.length = ks.length := by
            have := congrArg List.length h2
            simpa using this
          exact .inr ⟨p, vs, rfl, S.fh _ _ h1, by rw [hl]; exact q _ W H .refl S (.int _)⟩
      · cases e
        cases r1 with
        | loc h1 =>
          rename_i ns p
          exact .inl ⟨_, ns.length, rfl, .inl ⟨_, SqL.mono h1 S.fh, by rw [List.length_map]⟩, q _ W H .refl S (.int _)⟩
      · cases e
theorem abs_ok : ∃ r, CallR X (.builtin "abs") r ∧ Op1 X.K CA r (biD "abs") := by
  refine ⟨_, call_abs, ?_⟩
  intro W σ H env obs xs as d Q S rs e q
  cases rs with
  | nil => simp [biD] at e
  | cons r1 r2 =>
    cases r2 with
    | cons _ r3 => cases r3 <;> simp [biD] at e
    | nil =>
      simp only [biD] at e
      split at e
      · cases e; cases r1
        exact ⟨_, rfl, q _ W H .refl S (.int _)⟩
      · cases e
theorem sum_ok (hc : X.calm = true) : ∃ r, CallR X (.builtin "sum") r ∧ Op1 X.K CA r (biD "sum") := by
  refine ⟨_, cr_sum hc, ?_⟩
  intro W σ H env obs xs as d Q S rs e q
  cases rs with
  | nil => simp [biD] at e
  | cons r1 r2 =>
    cases r2 with
    | cons _ r3 => cases r3 <;> simp [biD] at e
    | nil =>
      simp only [biD] at e
      split at e
      · rw [Option.map_eq_some_iff] at e
        obtain ⟨ns, e, rfl⟩ := e
        cases intsD_some e
        obtain ⟨p, vs, rfl, h1, r1⟩ := S.lst r1
        rw [r1.to_ints] at h1
        exact ⟨p, ns, rfl, SqL.of h1, q _ W H .refl S (.int _)⟩
      · cases e
theorem all_ok (hc : X.calm = true) : ∃ r, CallR X (.builtin "all") r ∧ Op1 X.K CA r (biD "all") := by
  refine ⟨_, cr_all hc, ?_⟩
  intro W σ H env obs xs as d Q S rs e q
  cases rs with
  | nil => simp [biD] at e
  | cons r1 r2 =>
    cases r2 with
    | cons _ r3 => cases r3 <;> simp [biD] at e
    | nil =>
      simp only [biD] at e
      split at e
      · rw [Option.map_eq_some_iff] at e
        obtain ⟨ns, e, rfl⟩ := e
        cases blsD_some e
        obtain ⟨p, vs, rfl, h1, r1⟩ := S.lst r1
        rw [r1.to_bls] at h1
        exact ⟨p, ns, rfl, SqL.of h1, q _ W H .refl S (.bl _)⟩
      · cases e
theorem any_ok (hc : X.calm = true) : ∃ r, CallR X (.builtin "any") r ∧ Op1 X.K CA r (biD "any") := by
  refine ⟨_, cr_any hc, ?_⟩
  intro W σ H env obs xs as d Q S rs e q
  cases rs with
  | nil => simp [biD] at e
  | cons r1 r2 =>
    cases r2 with
    | cons _ r3 => cases r3 <;> simp [biD] at e
    | nil =>
      simp only [biD] at e
      split at e
      · rw [Option.map_eq_some_iff] at e
        obtain ⟨ns, e, rfl⟩ := e
        cases blsD_some e
        obtain ⟨p, vs, rfl, h1, r1⟩ := S.lst r1
        rw [r1.to_bls] at h1
        exact ⟨p, ns, rfl, SqL.of h1, q _ W H .refl S (.bl _)⟩
      · cases e
theorem maxI_spec : ∀ (xs : List Int) (x m : Int), m ∈ x :: xs → (∀ y, y ∈ x :: xs → y ≤ m) → m = maxI x xs
  | [], x, m, h, _ => by simpa [maxI] using h
  | y :: ys, x, m, h, hm => by
    unfold maxI
    refine maxI_spec ys _ m ?_ ?_
    · have hx := hm x (by simp)
      have hy := hm y (by simp)
      by_cases c : y > x
      · rw [if_pos c]
        rcases List.mem_cons.mp h with e | e
        · omega
        · exact e
      · rw [if_neg c]
        rcases List.mem_cons.mp h with e | e
        · rw [e]; exact List.mem_cons_self
        · rcases List.mem_cons.mp e with e | e
          · have : m = x := by omega
            rw [this]; exact List.mem_cons_self
          · exact List.mem_cons_of_mem _ e
    · intro z hz
      rcases List.mem_cons.mp hz with e | e
      · subst e
        split
        · exact hm y (by simp)
        · exact hm x (by simp)
      · exact hm z (by simp [e])
theorem minI_spec : ∀ (xs : List Int) (x m : Int), m ∈ x :: xs → (∀ y, y ∈ x :: xs → m ≤ y) → m = minI x xs
  | [], x, m, h, _ => by simpa [minI] using h
  | y :: ys, x, m, h, hm => by
    unfold minI
    refine minI_spec ys _ m ?_ ?_
    · have hx := hm x (by simp)
      have hy := hm y (by simp)
      by_cases c : y < x
      · rw [if_pos c]
        rcases List.mem_cons.mp h with e | e
        · omega
        · exact e
      · rw [if_neg c]
        rcases List.mem_cons.mp h with e | e
        · rw [e]; exact List.mem_cons_self
        · rcases List.mem_cons.mp e with e | e
          · have : m = x := by omega
            rw [this]; exact List.mem_cons_self
          · exact List.mem_cons_of_mem _ e
    · intro z hz
      rcases List.mem_cons.mp hz with e | e
      · subst e
        split
        · exact hm y (by simp)
        · exact hm x (by simp)
      · exact hm z (by simp [e])
theorem max_ok (hc : X.calm = true) : ∃ r, CallR X (.builtin "max") r ∧ Op1 X.K CA r (biD "max") := by
  refine ⟨_, CallR.or (cr_max hc) (CallR.or (call_max2 hc) (cr_maxT hc)), ?_⟩
  intro W σ H env obs xs as d Q S rs e q
  cases rs with
  | nil => simp [biD] at e
  | cons r1 r2 =>
    cases r2 with
    | cons r2 r3 =>
      cases r3 with
      | cons _ r4 => cases r4 <;> simp [biD] at e
      | nil =>
        simp only [biD] at e
        split at e
        · cases e; cases r1; cases r2
          exact .inr (.inl ⟨_, _, rfl, q _ W H .refl S (.int _)⟩)
        · cases e
    | nil =>
      simp only [biD] at e
      split at e
      · split at e
        · rename_i y ys e1; cases e
          cases intsD_some e1
          obtain ⟨p, vs, rfl, h1, r1⟩ := S.lst r1
          rw [r1.to_ints] at h1
          refine .inl ⟨p, y :: ys, rfl, SqL.of h1, by simp, fun m hm hle => ?_⟩
          rw [maxI_spec ys y m hm hle]
          exact q _ W H .refl S (.int _)
        · cases e
      · split at e
        · rename_i y ys e1; cases e
          cases intsD_some e1
          obtain ⟨p, vs, rfl, h1, r1⟩ := S.tup r1
          rw [r1.to_ints] at h1
          refine .inr (.inr ⟨p, y :: ys, rfl, h1, by simp, fun m hm hle => ?_⟩)
          rw [maxI_spec ys y m hm hle]
          exact q _ W H .refl S (.int _)
        · cases e
      · cases e
theorem min_ok (hc : X.calm = true) : ∃ r, CallR X (.builtin "min") r ∧ Op1 X.K CA r (biD "min") := by
  refine ⟨_, CallR.or (cr_min hc) (CallR.or (call_min2 hc) (cr_minT hc)), ?_⟩
  intro W σ H env obs xs as d Q S rs e q
  cases rs with
  | nil => simp [biD] at e
  | cons r1 r2 =>
    cases r2 with
    | cons r2 r3 =>
      cases r3 with
      | cons _ r4 => cases r4 <;> simp [biD] at e
      | nil =>
        simp only [biD] at e
        split at e
        · cases e; cases r1; cases r2
          exact .inr (.inl ⟨_, _, rfl, q _ W H .refl S (.int _)⟩)
        · cases e
    | nil =>
      simp only [biD] at e
      split at e
      · split at e
        · rename_i y ys e1; cases e
          cases intsD_some e1
          obtain ⟨p, vs, rfl, h1, r1⟩ := S.lst r1
          rw [r1.to_ints] at h1
          refine .inl ⟨p, y :: ys, rfl, SqL.of h1, by simp, fun m hm hle => ?_⟩
          rw [minI_spec ys y m hm hle]
          exact q _ W H .refl S (.int _)
        · cases e
      · split at e
        · rename_i y ys e1; cases e
          cases intsD_some e1
          obtain ⟨p, vs, rfl, h1, r1⟩ := S.tup r1
          rw [r1.to_ints] at h1
          refine .inr (.inr ⟨p, y :: ys, rfl, h1, by simp, fun m hm hle => ?_⟩)
          rw [minI_spec ys y m hm hle]
          exact q _ W H .refl S (.int _)
        · cases e
      · cases e
theorem insI_perm (x : Int) : ∀ l : List Int, (insI x l).Perm (x :: l)
  | [] => .refl _
  | y :: ys => by
    unfold insI
    split
    · exact .refl _
    · exact ((insI_perm x ys).cons y).trans (.swap x y ys)
theorem sortI_perm : ∀ l : List Int, (sortI l).Perm l
  | [] => .refl _
  | x :: xs => (insI_perm x _).trans ((sortI_perm xs).cons x)
theorem insI_sorted (x : Int) : ∀ {l : List Int}, l.Pairwise (· ≤ ·) → (insI x l).Pairwise (· ≤ ·)
  | [], _ => by simp [insI]
  | y :: ys, h => by
    unfold insI
    rw [List.pairwise_cons] at h
    split
    · rename_i hx
      refine List.pairwise_cons.mpr ⟨fun z hz => ?_, List.pairwise_cons.mpr h⟩
      rcases List.mem_cons.mp hz with rfl | hz
      · exact hx
      · exact Int.le_trans hx (h.1 z hz)
    · rename_i hx
      refine List.pairwise_cons.mpr ⟨fun z hz => ?_, insI_sorted x h.2⟩
      rcases List.mem_cons.mp ((insI_perm x ys).mem_iff.mp hz) with rfl | hz
      · omega
      · exact h.1 z hz
theorem sortI_sorted : ∀ l : List Int, (sortI l).Pairwise (· ≤ ·)
  | [] => .nil
  | x :: xs => insI_sorted x (sortI_sorted xs)
theorem sort_eq {a b : List Int} (p : a.Perm b) (ha : a.Pairwise (· ≤ ·)) (hb : b.Pairwise (· ≤ ·)) : a = b :=
  p.eq_of_pairwise (fun x y _ _ h1 h2 => Int.le_antisymm h1 h2) ha hb
theorem sorted_ok : ∃ r, CallR X (.builtin "sorted") r ∧ Op1 X.K CA r (biD "sorted") := by
  refine ⟨_, cr_sortedI, ?_⟩
  intro W σ H env obs xs as d Q S rs e q
  cases rs with
  | nil => simp [biD] at e
  | cons r1 r2 =>
    cases r2 with
    | cons _ r3 => cases r3 <;> simp [biD] at e
    | nil =>
      simp only [biD] at e
      split at e
      · rw [Option.map_eq_some_iff] at e
        obtain ⟨ns, e, rfl⟩ := e
        cases intsD_some e
        obtain ⟨p, vs, rfl, h1, r1⟩ := S.lst r1
        rw [r1.to_ints] at h1
        refine ⟨p, ns, rfl, SqL.of h1, fun ms w hp hs hw => ?_⟩
        have e2 : ms = sortI ns := sort_eq (hp.trans (sortI_perm ns).symm) hs (sortI_sorted ns)
        subst e2
        exact GP.lst S q (Reps.ints _) w hw
      · cases e
theorem inuI_mem (x : Int) : ∀ (l : List Int) (k : Int), k ∈ inuI x l ↔ k = x ∨ k ∈ l
  | [], k => by simp [inuI]
  | y :: ys, k => by
    unfold inuI
    split
    · simp
    · split
      · rename_i h; subst h; simp
      · simp only [List.mem_cons, inuI_mem x ys k]
        constructor
        · rintro (h | h | h) <;> simp [h]
        · rintro (h | h | h) <;> simp [h]
theorem ssetI_mem : ∀ (l : List Int) (k : Int), k ∈ ssetI l ↔ k ∈ l
  | [], k => by simp [ssetI]
  | x :: xs, k => by unfold ssetI; rw [inuI_mem, ssetI_mem xs k, List.mem_cons]
theorem inuI_sorted (x : Int) : ∀ {l : List Int}, l.Pairwise (· < ·) → (inuI x l).Pairwise (· < ·)
  | [], _ => by simp [inuI]
  | y :: ys, h => by
    unfold inuI
    have h' := List.pairwise_cons.mp h
    split
    · rename_i hx
      refine List.pairwise_cons.mpr ⟨fun z hz => ?_, h⟩
      rcases List.mem_cons.mp hz with rfl | hz
      · exact hx
      · exact Int.lt_trans hx (h'.1 z hz)
    · split
      · exact h
      · refine List.pairwise_cons.mpr ⟨fun z hz => ?_, inuI_sorted x h'.2⟩
        rcases (inuI_mem x ys z).mp hz with rfl | hz
        · omega
        · exact h'.1 z hz
theorem ssetI_sorted : ∀ l : List Int, (ssetI l).Pairwise (· < ·)
  | [] => .nil
  | x :: xs => inuI_sorted x (ssetI_sorted xs)
theorem sset_eq {a ns : List Int} (ha : a.Pairwise (· < ·)) (h : ∀ k, k ∈ a ↔ k ∈ ns) : a = ssetI ns := by
  have n1 : a.Nodup := ha.imp fun h => Int.ne_of_lt h
  have n2 : (ssetI ns).Nodup := (ssetI_sorted ns).imp fun h => Int.ne_of_lt h
  have p : a.Perm (ssetI ns) := (List.perm_ext_iff_of_nodup n1 n2).mpr fun k => by rw [h k, ssetI_mem]
  exact p.eq_of_pairwise (fun x y _ _ h1 h2 => absurd h1 (by omega)) ha (ssetI_sorted ns)
theorem putK_old (kvs : List (Key × V)) (k : Key) (v : V) (h : k ∈ kvs.map (·.1)) : (putK kvs k v).map (·.1) = kvs.map (·.1) := by
  unfold putK
  obtain ⟨p, hp, e⟩ := List.mem_map.mp h
  rw [if_pos (List.any_eq_true.mpr ⟨p, hp, by simpa using e⟩), List.map_map]
  refine List.map_congr_left fun q hq => ?_
  show (if q.1 = k then (q.1, v) else q).1 = q.1
  split <;> rfl
theorem putK_fresh (kvs : List (Key × V)) (k : Key) (v : V) (h : ¬ k ∈ kvs.map (·.1)) : (putK kvs k v).map (·.1) = kvs.map (·.1) ++ [k] := by
  unfold putK
  rw [if_neg fun z => h (by obtain ⟨p, hp, e⟩ := List.any_eq_true.mp z; exact List.mem_map.mpr ⟨p, hp, by simpa using e⟩), List.map_append]
  rfl
theorem mergeK_keys : ∀ (more kvs : List (Key × V)) (ns ks : List Int), more.map (·.1) = ns.map Sum.inl → kvs.map (·.1) = ks.map Sum.inl → ks.Nodup →
    ∃ ms : List Int, (mergeK kvs more).map (·.1) = ms.map Sum.inl ∧ ms.Nodup ∧ (∀ k, k ∈ ms ↔ k ∈ ks ∨ k ∈ ns) ∧ ms.length ≤ ks.length + ns.length
  | [], kvs, ns, ks, h1, h2, h3 => by
    cases ns with
    | nil => exact ⟨ks, h2, h3, fun k => by simp, by simp⟩
    | cons _ _ => cases h1
  | p :: r, kvs, ns, ks, h1, h2, h3 => by
    cases ns with
    | nil => cases h1
    | cons n ns =>
      rw [List.map_cons, List.map_cons, List.cons.injEq] at h1
      obtain ⟨e, h1⟩ := h1
      show ∃ ms : List Int, (mergeK (putK kvs p.1 p.2) r).map (·.1) = ms.map Sum.inl ∧ _
      have hk : (p.1 ∈ kvs.map (·.1)) ↔ n ∈ ks := by rw [h2, e]; simp
      by_cases hn : n ∈ ks
      · obtain ⟨ms, m1, m2, m3, m4⟩ := mergeK_keys r (putK kvs p.1 p.2) ns ks h1 (by rw [putK_old _ _ _ (hk.mpr hn), h2]) h3
        refine ⟨ms, m1, m2, fun k => ?_, by simp only [List.length_cons]; omega⟩
        rw [m3, List.mem_cons]
        constructor
        · rintro (h | h) <;> simp [h]
        · rintro (h | h | h)
          · exact .inl h
          · subst h; exact .inl hn
          · exact .inr h
      · obtain ⟨ms, m1, m2, m3, m4⟩ := mergeK_keys r (putK kvs p.1 p.2) ns (ks ++ [n]) h1 (by rw [putK_fresh _ _ _ (fun z => hn (hk.mp z)), h2, e]; simp) (by
          rw [List.nodup_append]
          exact ⟨h3, by simp, fun a ha b hb => by rw [List.mem_singleton] at hb; subst hb; intro z; subst z; exact hn ha⟩)
        refine ⟨ms, m1, m2, fun k => ?_, by simp only [List.length_append, List.length_cons, List.length_nil] at m4 ⊢; omega⟩
        rw [m3, List.mem_append, List.mem_singleton, List.mem_cons, or_assoc]
theorem fsts_ok {W : Wd} {σ : L2.St} {H : Hp} {env : Env} {obs : Obs} (S : SRel X.K CA W σ H env obs) : ∀ {ds : List D} {vs : List V} {ns : List Int}, W.reps X.K vs ds → fstsD ds = some ns →
    ∃ (ps : List Addr) (kvs : List (Key × V)), vs = ps.map V.ref ∧ kvs.map (·.1) = ns.map Sum.inl ∧ Paired (fun p kv => SqT X.K H p [kV kv.1, kv.2]) ps kvs
  | [], vs, ns, r, e => by
    cases e
    have r : W.reps X.K vs [] := r
    cases r
    exact ⟨[], [], rfl, rfl, .nil⟩
  | d :: ds, vs, ns, r, e => by
    obtain ⟨v, vs', rfl, rv, rr⟩ : ∃ v vs', vs = v :: vs' ∧ W.rep X.K v d ∧ W.reps X.K vs' ds := by
      have r : W.reps X.K vs (d :: ds) := r
      cases r with | cons rv rr => exact ⟨_, _, rfl, rv, rr⟩
    unfold fstsD at e
    split at e
    · rename_i heq; cases heq
    · rename_i i y ds' heq
      cases heq
      rw [Option.map_eq_some_iff] at e
      obtain ⟨ns', e, rfl⟩ := e
      obtain ⟨ps, kvs, rfl, h2, h3⟩ := fsts_ok S rr e
      obtain ⟨p, us, rfl, hp, ru⟩ := S.tup rv
      obtain ⟨u1, us1, rfl, r1, rr1⟩ : ∃ v vs', us = v :: vs' ∧ W.rep X.K v (.int i) ∧ W.reps X.K vs' [y] := by
        have r : W.reps X.K us [.int i, y] := ru
        cases r with | cons rv rr => exact ⟨_, _, rfl, rv, rr⟩
      obtain ⟨u2, us2, rfl, r2, rr2⟩ : ∃ v vs', us1 = v :: vs' ∧ W.rep X.K v y ∧ W.reps X.K vs' [] := by
        have r : W.reps X.K us1 [y] := rr1
        cases r with | cons rv rr => exact ⟨_, _, rfl, rv, rr⟩
      have rr2 : W.reps X.K us2 [] := rr2
      cases rr2
      cases r1.to_int
      exact ⟨p :: ps, (Sum.inl i, u2) :: kvs, rfl, by rw [List.map_cons, h2]; rfl, .cons hp h3⟩
    · cases e
theorem int_ok : ∃ r, CallR X (.type "int") r ∧ Op1 X.K CA r (biD "int") := by
  refine ⟨_, call_int1, ?_⟩
  intro W σ H env obs xs as d Q S rs e q
  cases rs with
  | nil => simp [biD] at e
  | cons r1 r2 =>
    cases r2 with
    | cons _ r3 => cases r3 <;> simp [biD] at e
    | nil =>
      simp only [biD] at e
      split at e
      · cases e; cases r1
        exact .inl ⟨_, rfl, q _ W H .refl S (.int _)⟩
      · cases e; cases r1
        exact .inr ⟨_, rfl, q _ W H .refl S (.int _)⟩
      · cases e
theorem str_ok : ∃ r, CallR X (.type "str") r ∧ Op1 X.K CA r (biD "str") := by
  refine ⟨_, call_str_int, ?_⟩
  intro W σ H env obs xs as d Q S rs e q
  cases rs with
  | nil => simp [biD] at e
  | cons r1 r2 =>
    cases r2 with
    | cons _ r3 => cases r3 <;> simp [biD] at e
    | nil =>
      simp only [biD] at e
      split at e
      · split at e
        · rename_i h; cases e; cases r1
          exact ⟨_, rfl, h, q _ W H .refl S (.str _)⟩
        · cases e
      · cases e
theorem tuple_ok : ∃ r, CallR X (.type "tuple") r ∧ Op1 X.K CA r (biD "tuple") := by
  refine ⟨_, call_tuple_of, ?_⟩
  intro W σ H env obs xs as d Q S rs e q
  cases rs with
  | nil => simp [biD] at e
  | cons r1 r2 =>
    cases r2 with
    | cons _ r3 => cases r3 <;> simp [biD] at e
    | nil =>
      simp only [biD] at e
      split at e
      · cases e
        obtain ⟨p, vs, rfl, h1, r1⟩ := S.lst r1
        exact ⟨p, vs, rfl, .inl ⟨SqL.of h1, GP.tup S q r1⟩⟩
      · cases e
        obtain ⟨p, vs, e1, h1, r2⟩ := S.tup r1
        subst e1
        exact ⟨p, vs, rfl, .inr ⟨h1, q _ W H .refl S r1⟩⟩
      · cases e
theorem list_ok : ∃ r, CallR X (.type "list") r ∧ Op1 X.K CA r (biD "list") := by
  refine ⟨_, call_list_of, ?_⟩
  intro W σ H env obs xs as d Q S rs e q
  cases rs with
  | nil => simp [biD] at e
  | cons r1 r2 =>
    cases r2 with
    | cons _ r3 => cases r3 <;> simp [biD] at e
    | nil =>
      simp only [biD] at e
      split at e
      · cases e
        obtain ⟨p, vs, rfl, h1, r1⟩ := S.lst r1
        exact ⟨p, vs, rfl, .inl (SqL.of h1), GP.lst S q r1⟩
      · cases e
        obtain ⟨p, vs, rfl, h1, r1⟩ := S.tup r1
        exact ⟨p, vs, rfl, .inr h1, GP.lst S q r1⟩
      · cases e
/-- isinstance with one built-in class of int, bool, str, tuple, list -/
def isiTs : List String := ["int", "bool", "str", "tuple", "list"]
theorem isi_ok {t : String} (ht : t ∈ isiTs) : ∃ r, CallR X (.builtin "isinstance") r ∧ ∀ (W : Wd) (σ : L2.St) (H : Hp) (env : Env) (obs : Obs) (x : V) (a : D) (k : Bool) (Q : V → Hp → Prop), SRel X.K CA W σ H env obs → W.rep X.K x a → isiD t a = some k → Q (.bl k) H → r [x, .ty t] H Q := by
  refine ⟨_, call_isi, ?_⟩
  intro W σ H env obs x a k Q S rx e q
  have hk : ∀ s ∈ (["NoneType", "bool", "int", "str", "tuple", "list"] : List String), ∀ t ∈ isiTs, (kitB s t).isSome = true := by decide +kernel
  have go : ∀ (s : String), s ∈ (["NoneType", "bool", "int", "str", "tuple", "list"] : List String) → TyX X.K H x (.type s) → (∀ b, kitB s t = some b → b = k) → rIsi X.K [x, .ty t] H Q := fun s hs ty hb => by
    cases z : kitB s t with
    | none => have := hk s hs t ht; rw [z] at this; cases this
    | some b =>
      have := hb b z; subst this
      exact ⟨x, .ty t, .type s, .type t, b, rfl, .ty t, ty, kit_ty z, q⟩
  cases rx with
  | non =>
    refine go "NoneType" (by decide) (.base .non) fun b z => ?_
    simp only [isiD, Option.some.injEq] at e; subst e
    clear q hk go
    revert b; revert ht; revert t; decide +kernel
  | bl c =>
    refine go "bool" (by decide) (.base (.bl c)) fun b z => ?_
    simp only [isiD, Option.some.injEq] at e; subst e
    clear q hk go
    revert b; revert ht; revert t; decide +kernel
  | int c =>
    refine go "int" (by decide) (.base (.int c)) fun b z => ?_
    simp only [isiD, Option.some.injEq] at e; subst e
    clear q hk go
    revert b; revert ht; revert t; decide +kernel
  | str c =>
    refine go "str" (by decide) (.base (.str c)) fun b z => ?_
    simp only [isiD, Option.some.injEq] at e; subst e
    clear q hk go
    revert b; revert ht; revert t; decide +kernel
  | ty n => simp [isiD] at e
  | tup h r =>
    refine go "tuple" (by decide) ?_ fun b z => ?_
    · rcases h with (h | ⟨o, h⟩) | ⟨o, its, n, hk, hc, _⟩
      · exact .base (.tup (S.fh _ _ h))
      · exact .fTuple (S.fh _ _ h)
      · exact .kTuple hk hc
    · simp only [isiD, Option.some.injEq] at e; subst e
      clear q hk go
      revert b; revert ht; revert t; decide +kernel
  | lst h r =>
    refine go "list" (by decide) (.base (.lst (S.fh _ _ h))) fun b z => ?_
    simp only [isiD, Option.some.injEq] at e; subst e
    clear q hk go
    revert b; revert ht; revert t; decide +kernel
  | loc _ => simp [isiD] at e
  | dic _ _ _ => simp [isiD] at e
  | obj _ => simp [isiD] at e
end
end Mp

set_option Elab.async false
set_option linter.all false
set_option maxRecDepth 100000
set_option maxHeartbeats 4000000
/-! Methods and instances, where exceptions may leave a call at the slots as they stand. -/
namespace Mp
open PySem PySem.Spec PyProof.Rows L2
section
variable {X : Cx} {CX : CXT} {k : Nat} {f C : Addr} {fd : FuncData} {ps : List Str} {sp : Sp} {E : L2.St → XK} {x m : Str} {p pos apos : Pos} {o e : Expr} {es : List Expr} {ta : TE} {t : TA}
theorem callee_eq {env : PySem.Env} {n : Nat} {trees : List (Bool × Sem Value)} (hb : attributeBase o m env (eval o env) = eval o env) (hform : methodCallForm (es.length + ([] : List Keyword).length) (backTo pos (starEach es env)) (backToKw pos (keywordEach [] env)) = true) (hl : (apos.endLine == pos.line) = true) :
    eval (.Call (.Attribute o m apos) es [] pos) env = (do
      let y ← eval o env; standAt apos.atName
      let (g, us) ← holding [y] (getMethod y m (do return (← importBound o env).getD true)); callWith pos g us (backTo pos (starEach es env)) (backToKw pos (keywordEach [] env))) := by
  rw [arm_eval_Call, hb]
  unfold methodCall calleeOf methodCallPos
  simp only [hform, hl, if_true, Bool.not_true, Bool.or_true]
  rfl
/-- what a method's call asks -/
def tMethQ (C : Addr) (m : Str) (sp : Sp) (E : L2.St → XK) (ta : TE) (t : TA) : TE := fun σ H Q =>
  ta σ H fun y H1 => ∃ a dx fs, y = .ref a ∧ H1 a = some (.ins C dx fs) ∧ fs.lookup m = none ∧ t σ H1 fun vs H2 => sp (y :: vs) H2 Q (E σ)
theorem form_of {env : PySem.Env} (h : (backTo pos (starEach es env)).any (·.1) = false) (hn : es.length < 29) : methodCallForm (es.length + ([] : List Keyword).length) (backTo pos (starEach es env)) (backToKw pos (keywordEach [] env)) = true := by
  unfold methodCallForm
  have h1 : (backTo pos (starEach es env)).all (!·.1) = true := by
    rw [List.all_eq_true]
    intro z hz
    have := List.any_eq_false.mp h z hz
    simpa using this
  rw [h1]
  have : es.length + 0 + 0 < 30 := by omega
  simp [keywordEach, backToKw]
  omega
/-- o.m(e, ..) -/
theorem pe_methQ (he : PE X o ta) (c : Cls X.K C) (hm : Meth X.K C m f) (F : FnOk X.prog X.w X.K X.mg X.base CX k f fd ps sp) (hr : Room k X.A) (hb : Binds X.K fd ps []) (hx : ∀ σ, PassesAt CX X σ (E σ)) (ha : PA X (e :: es) t)
    (hst : starEach (e :: es) X.env = (false, eval e X.env) :: starEach es X.env) (hpl : (backTo pos (starEach es X.env)).any (·.1) = false) (hn : (e :: es).length < 29)
    (hbase : attributeBase o m X.env (eval o X.env) = eval o X.env) (hl : (apos.endLine == pos.line) = true) :
    PE X (.Call (.Attribute o m apos) (e :: es) [] pos) (tMethQ C m sp E ta t) := by
  refine ⟨fun pins s σ H Q I h => ?_⟩
  have hp2 : (backTo pos (starEach (e :: es) X.env)).any (·.1) = false := by rw [hst]; show (false || (backTo pos (starEach es X.env)).any (·.1)) = false; rw [hpl]; rfl
  refine PySem.W.methodCall_KW (thn (he.run pins s σ H _ I h) fun u s1 z => ?_) (callee_eq (n := 0) (trees := []) hbase (form_of hp2 hn) hl)
  obtain ⟨y, H1, I1, ry, a, dx, fs, rfl, ea, l, q⟩ := z
  have eu : u = Value.ref a := ry
  subst eu
  refine getmeth_ok I1 ea c hm l ?_
  refine PySem.W.callWith_K (first := [.ref a]) (h₀ := X.base) I1.ok.mod.kin hm.kp (thn (ha.run pos pins s1 σ H1 _ I1 q) fun us s2 z2 => ?_) hst hpl
  obtain ⟨vs, H2, I2, r2, q2⟩ := z2
  exact ⟨I2.kIn, run_fnS (us := .ref a :: us) (vs := .ref a :: vs) F hr hb (hx σ) I2 (.cons rfl r2) q2⟩
/-- o.m() -/
theorem pe_methQ0 (he : PE X o ta) (c : Cls X.K C) (hm : Meth X.K C m f) (F : FnOk X.prog X.w X.K X.mg X.base CX k f fd ps sp) (hr : Room k X.A) (hb : Binds X.K fd ps []) (hx : ∀ σ, PassesAt CX X σ (E σ))
    (hbase : attributeBase o m X.env (eval o X.env) = eval o X.env) (hl : (apos.endLine == pos.line) = true) :
    PE X (.Call (.Attribute o m apos) [] [] pos) (tMethQ C m sp E ta tNil) := by
  refine ⟨fun pins s σ H Q I h => ?_⟩
  refine PySem.W.methodCall_KW (thn (he.run pins s σ H _ I h) fun u s1 z => ?_) (callee_eq (n := 0) (trees := []) hbase (form_of rfl (by decide)) hl)
  obtain ⟨y, H1, I1, ry, a, dx, fs, rfl, ea, l, q⟩ := z
  have eu : u = Value.ref a := ry
  subst eu
  refine getmeth_ok I1 ea c hm l ?_
  exact PySem.W.callWith_K0 (first := [.ref a]) I1.kIn hm.kp (run_fnS (us := [.ref a]) (vs := [.ref a]) F hr hb (hx σ) I1 (.cons rfl .nil) q)
/-- what a new instance asks -/
def tMakeQ (C : Addr) (sp : Sp) (E : L2.St → XK) (t : TA) : TE := fun σ H Q => t σ H fun vs H1 => ∀ z dz, H1 z = none → H1 dz = none → dz ≠ z →
  sp (.ref z :: vs) (upd (upd H1 dz (.own z)) z (.ins C dz [])) (fun v H2 => v = .non ∧ Q (.ref z) H2) (E σ)
theorem run_makeQ {pins : List (Addr × Obj)} {σ : L2.St} {H : Hp} {s : Shared} {Q : VK} {us : List Value} {vs : List V} (M : Mk X.K C f) (F : FnOk X.prog X.w X.K X.mg X.base CX k f fd ps sp) (hr : Room (k + 1) X.A) (hb : Binds X.K fd ps [])
    (hx : PassesAt CX X σ (E σ)) (I : Inv X pins σ H s) (r : Vals vs us)
    (h : ∀ z dz, H z = none → H dz = none → dz ≠ z → sp (.ref z :: vs) (upd (upd H dz (.own z)) z (.ins C dz [])) (fun v H2 => v = .non ∧ Q (.ref z) H2) (E σ)) :
    wpAny (model X.prog X.w) X.A (call (.ref C) us) (EP X pins σ Q) X.xe s := by
  obtain ⟨n, hn⟩ : ∃ n, n = s.heap.objs.size := ⟨_, rfl⟩
  have q := h (n + 1) n (by rw [hn]; exact I.hok.fresh (Nat.le_succ _)) (by rw [hn]; exact I.hok.fresh (Nat.le_refl _)) (Nat.ne_of_lt (Nat.lt_succ_self n))
  rw [hn] at q
  have J := Inv.made (C := C) I
  have rv : Vals (V.ref (s.heap.objs.size + 1) :: vs) (Value.ref (s.heap.objs.size + 1) :: us) := .cons rfl r
  have hlen : (Value.ref (s.heap.objs.size + 1) :: us).length = ps.length := by rw [← rv.length]; exact F.len _ _ _ _ q
  have bd := hb _ (Value.ref (s.heap.objs.size + 1) :: us) J.kIn (by rw [List.append_nil]; exact hlen)
  rw [List.append_nil] at bd
  have go := F.run _ X.stack _ _ ⟨Value.ref (s.heap.objs.size + 1) :: us, []⟩ (Value.ref (s.heap.objs.size + 1) :: us) _ _ (E σ) (hr.make C us []) (J.env0.make C us []) bd rv q
  refine wpAny_call (make_map (f := f) I.kIn M.makes M.init (beq_iff_eq.mp M.fn) (codeAny_mono go fun rr t hq => ?_))
  cases rr with
  | error e => exact hx pins _ _ e t J hq
  | ok fl =>
    cases fl with
    | ret u =>
      obtain ⟨v, H', I3, ru, ev, q3⟩ := J.after hq
      subst ev
      exact ⟨ru, ⟨V.ref (s.heap.objs.size + 1), H', I3, rfl, q3⟩⟩
    | next => exact hq.elim
    | brk => exact hq.elim
    | cont => exact hq.elim
/-- C(e, ..) -/
theorem pe_makeQ (M : Mk X.K C f) (F : FnOk X.prog X.w X.K X.mg X.base CX k f fd ps sp) (hr : Room (k + 1) X.A) (hg : Gl X x) (hm : X.mg x = some (.ref C)) (hb : Binds X.K fd ps []) (hx : ∀ σ, PassesAt CX X σ (E σ)) (ha : PA X (e :: es) t)
    (hdb : (x == ("__debug__" : Str)) = false) (hst : starEach (e :: es) X.env = (false, eval e X.env) :: starEach es X.env) (hpl : (backTo pos (starEach es X.env)).any (·.1) = false) :
    PE X (.Call (.Name x p) (e :: es) [] pos) (tMakeQ C sp E t) := by
  refine ⟨fun pins s σ H Q I h => wpAny_Call_Name_kw (ld_glob I hg hm ?_ hdb)⟩
  refine PySem.W.callWith_K (h₀ := X.base) I.ok.mod.kin M.kp (thn (ha.run pos pins s σ H _ I h) fun us s1 z => ?_) hst hpl
  obtain ⟨vs, H1, I1, r, q⟩ := z
  exact ⟨I1.kIn, run_makeQ M F hr hb (hx σ) I1 r q⟩
/-- C() -/
theorem pe_makeQ0 (M : Mk X.K C f) (F : FnOk X.prog X.w X.K X.mg X.base CX k f fd ps sp) (hr : Room (k + 1) X.A) (hg : Gl X x) (hm : X.mg x = some (.ref C)) (hb : Binds X.K fd ps []) (hx : ∀ σ, PassesAt CX X σ (E σ))
    (hdb : (x == ("__debug__" : Str)) = false) : PE X (.Call (.Name x p) [] [] pos) (tMakeQ C sp E tNil) := by
  refine ⟨fun pins s σ H Q I h => wpAny_Call_Name_kw (ld_glob I hg hm ?_ hdb)⟩
  exact PySem.W.callWith_K0 I.kIn M.kp (run_makeQ (us := []) (vs := []) M F hr hb (hx σ) I .nil h)
/-- f() -/
theorem pe_callS0 (F : FnOk X.prog X.w X.K X.mg X.base CX k f fd ps sp) (hr : Room k X.A) (hg : Gl X x) (hm : X.mg x = some (.ref f)) (hk : PySem.W.keepIn X.K (.ref f) = true) (hb : Binds X.K fd ps []) (hx : ∀ σ, PassesAt CX X σ (E σ))
    (hdb : (x == ("__debug__" : Str)) = false) : PE X (.Call (.Name x p) [] [] pos) (fun σ H Q => sp [] H Q (E σ)) := by
  refine ⟨fun pins s σ H Q I h => wpAny_Call_Name_kw (ld_glob I hg hm ?_ hdb)⟩
  exact PySem.W.callWith_K0 I.kIn hk (run_fnS (us := []) (vs := []) F hr hb (hx σ) I .nil h)
end
end Mp

set_option Elab.async false
set_option linter.all false
set_option maxRecDepth 100000
/-! Which terms of the model the small language's terms stand for; the parts of a proof that they mean the same. -/
namespace Mp
open PySem PySem.Spec PyProof.Rows L2

/-! ### which terms -/
def visB (sc : Scope) (x : Str) : Bool := match sc.names.lookup x with | some .local => true | some .cell => true | some .free => true | _ => false
def locB (sc : Scope) (x : Str) : Bool := match sc.names.lookup x with | some .local => true | some .cell => true | _ => false
def glB (sc : Scope) (x : Str) : Bool := match sc.names.lookup x with | some .globalImplicit => true | _ => false
def dbg (x : Str) : Bool := x == ("__debug__" : Str)
def isStar : Expr → Bool
  | .Starred _ _ => true | _ => false
def isSlice : Expr → Bool
  | .Slice _ _ _ _ => true | _ => false
def isSet : Expr → Bool
  | .Set _ _ _ => true | _ => false
def isCompr : Expr → Bool
  | .ListComp _ _ _ _ => true | .SetComp _ _ _ _ => true | .DictComp _ _ _ _ _ => true | _ => false
def isCallE : Expr → Bool
  | .Call _ _ _ _ => true | _ => false
def biB : List String := ["len", "abs", "sum", "all", "any", "max", "min", "sorted"]
/-- a shared list's methods -/
def oMs : List String := ["append", "extend", "pop"]
def biT : List String := ["int", "str", "tuple", "list"]
/-- the built-in class's methods that are read -/
def mthOk (T m : String) : Bool := T == "dict" && m == "get"
def chkNm1 (sc : Scope) (N : List Str) (own : List Nat) (i : Nat) : Expr → Bool
  | .Name x _ => decide (N[i]? = some x) && locB sc x && own.contains i
  | _ => false
def chkNm2 (sc : Scope) (N : List Str) (own : List Nat) : List Nat → List Expr → Bool
  | [], [] => true
  | i :: is, e :: es => chkNm1 sc N own i e && chkNm2 sc N own is es
  | _, _ => false
def chkT1 (sc : Scope) (N : List Str) (own : List Nat) : Nat ⊕ List Nat → Expr → Bool
  | .inl i, e => chkNm1 sc N own i e
  | .inr ts, .Tuple es _ _ => chkNm2 sc N own ts es
  | _, _ => false
def chkTt (sc : Scope) (N : List Str) (own : List Nat) : List (Nat ⊕ List Nat) → List Expr → Bool
  | [], [] => true
  | i :: is, e :: es => chkT1 sc N own i e && chkTt sc N own is es
  | _, _ => false
def chkTg (sc : Scope) (N : List Str) (own : List Nat) : Tg → Expr → Bool
  | .nm i, e => chkNm1 sc N own i e
  | .tp ts, .Tuple es _ _ => chkNm2 sc N own ts es
  | .tt ts, .Tuple es _ _ => chkTt sc N own ts es
  | _, _ => false
def isRevSl : Expr → Bool
  | .Slice none none (some (.UnaryOp .USub (.Constant (.int i) _ _) _)) _ => i == 1
  | _ => false
theorem isRevSl_ok {e : Expr} (h : isRevSl e = true) : ∃ k p1 p2 p3, e = .Slice none none (some (.UnaryOp .USub (.Constant (.int 1) k p1) p2)) p3 := by
  unfold isRevSl at h
  split at h
  · have := eq_of_beq h
    subst this
    exact ⟨_, _, _, _, rfl⟩
  · cases h
def baseB : Expr → Bool
  | .Name _ _ => true | .Subscript _ _ _ => true | .Attribute _ _ _ => true | _ => false
theorem base_ok {e : Expr} {m : Str} {env : PySem.Env} {r : Sem Value} (h : baseB e = true) : attributeBase e m env r = r := by
  cases e <;> first | rfl | (simp [baseB] at h)
/-- names of what classes have, among the built-in ones: :c.m, +c, @c.x -/
def decT (t : Nat) (b : Str) : Option (Str × Str) := match b.cps.toList with
  | z :: r => if z = t then some (⟨(r.takeWhile fun y => !(y == 46)).toArray⟩, ⟨((r.dropWhile fun y => !(y == 46)).drop 1).toArray⟩) else none
  | [] => none
def decM (b : Str) : Option (Str × Str) := decT 58 b
def decF (b : Str) : Option (Str × Str) := decT 64 b
def decK (b : Str) : Option (Str × Str) := decT 43 b
section
variable (fs bs : List Str) (N : List Str)
mutual
def chkE : Scope → E → Expr → Bool
  | _, .lit .non, .Constant .none _ _ => true
  | _, .lit (.bl b), .Constant (.bool c) _ _ => b == c
  | _, .lit (.int b), .Constant (.int c) _ _ => b == c
  | _, .lit (.str b), .Constant (.str c) _ _ => b == c
  | sc, .var i, .Name x _ => decide (N[i]? = some x) && visB sc x && !dbg x && !(x == ("__classdict__" : Str))
  | sc, .glob y, .Name x _ => y == x && glB sc x && !dbg x
  | sc, .bin op a b, .BinOp a' op' b' _ => decide (op = op') && chkE sc a a' && chkE sc b b'
  | sc, .cmp op a b, .Compare a' ops bs' _ => match ops, bs' with
    | [op'], [b'] => decide (op = op') && chkE sc a a' && chkE sc b b' && !isSet b'
    | _, _ => false
  | sc, .chn o1 o2 a b c, .Compare a' ops bs' _ => match ops, bs' with
    | [o1', o2'], [b', c'] => decide (o1 = o1') && decide (o2 = o2') && chkE sc a a' && chkE sc b b' && chkE sc c c' && !isSet c'
    | _, _ => false
  | sc, .not a, .UnaryOp .Not a' _ => chkE sc a a'
  | sc, .neg a, .UnaryOp .USub a' _ => chkE sc a a'
  | sc, .con es, .BoolOp .And es' _ => chkEs sc es es'
  | sc, .dis es, .BoolOp .Or es' _ => chkEs sc es es'
  | sc, .ife c a b, .IfExp c' a' b' _ => chkE sc c c' && chkE sc a a' && chkE sc b b'
  | sc, .tup es, .Tuple es' _ _ => chkEs sc es es'
  | sc, .lst es, .List es' _ => chkEs sc es es'
  | sc, .ix a b, .Subscript a' b' _ => chkE sc a a' && chkE sc b b' && !isSlice b'
  | sc, .sl a lo hi, .Subscript a' (.Slice lo' hi' none _) _ => chkE sc a a' && chkO sc lo lo' && chkO sc hi hi'
  | sc, .rev a, .Subscript a' b' _ => isRevSl b' && chkE sc a a'
  | sc, .call f es, .Call (.Name x _) es' [] _ => f == x && glB sc x && !dbg x && fs.contains x && chkEs sc es es'
  | sc, .bi f es, .Call (.Name x _) es' [] _ => Str.ofString f == x && glB sc x && bs.contains x && (biB.contains f || biT.contains f) && !es'.isEmpty && chkEs sc es es'
  | sc, .isi a t, .Call (.Name x _) es' [] _ => match es' with
    | [a', .Name y _] => x == ("isinstance" : Str) && glB sc x && bs.contains x && isiTs.contains t && Str.ofString t == y && glB sc y && bs.contains y && chkE sc a a' && !isStar a'
    | _ => false
  | sc, .lc x tg it c own, .ListComp x' gs scope _ => match gs with
    | [⟨tg', it', ifs', 0⟩] => blkC N sc scope own && chkI sc it tg' it' && chkTg scope N (own.map (·.2)) tg tg' && chkC (relS scope sc) c ifs' && chkE (relS scope sc) x x'
    | _ => false
  | sc, .lc2 x tg it c tg1 it1 c1 own vs1, .ListComp x' gs scope _ => match gs with
    | [⟨tg', it', ifs', 0⟩, ⟨tg1', it1', ifs1', 0⟩] => blkC N sc scope own && chkI sc it tg' it' && chkTg scope N (own.map (·.2)) tg tg' && chkC (relS scope sc) c ifs' && chkI (relS scope sc) it1 tg1' it1' && chkTg scope N vs1 tg1 tg1' && vs1.all (fun v => (own.map (·.2)).contains v) && chkC (relS scope sc) c1 ifs1' && chkE (relS scope sc) x x'
    | _ => false
  | sc, .sset a, .Call (.Name x _) es' [] _ => match es' with
    | [.Call (.Name y _) es2 [] _] => x == ("sorted" : Str) && glB sc x && bs.contains x && y == ("set" : Str) && glB sc y && bs.contains y && (match es2 with
      | [a'] => chkE sc a a' && !isStar a'
      | _ => false)
    | _ => false
  | sc, .sdic a, .Call (.Name x _) es' [] _ => match es' with
    | [.Call (.Name y _) es2 [] _] => x == ("sorted" : Str) && glB sc x && bs.contains x && y == ("dict" : Str) && glB sc y && bs.contains y && (match es2 with
      | [a'] => chkE sc a a' && !isStar a'
      | _ => false)
    | _ => false
  | sc, .bor _ e, e' => chkE sc e e'
  | sc, .oix a b, .Subscript a' b' _ => chkE sc a a' && chkE sc b b' && !isSlice b'
  | sc, .olen a, .Call (.Name x _) es' [] _ => match es' with
    | [a'] => x == ("len" : Str) && glB sc x && bs.contains x && chkE sc a a' && !isStar a'
    | _ => false
  | sc, .olist a, .Call (.Name x _) es' [] _ => match es' with
    | [a'] => x == ("list" : Str) && glB sc x && bs.contains x && chkE sc a a' && !isStar a'
    | _ => false
  | sc, .onew es, .List es' _ => chkEs sc es es'
  | sc, .om m a e, .Call (.Attribute a' m' apos) es' [] cpos => match es' with
    | [e'] => Str.ofString m == m' && oMs.contains m && baseB a' && apos.endLine == cpos.line && chkE sc a a' && chkE sc e e' && !isStar e'
    | _ => false
  | sc, .otup a, .Call (.Name x _) es' [] _ => match es' with
    | [a'] => x == ("tuple" : Str) && glB sc x && bs.contains x && chkE sc a a' && !isStar a'
    | _ => false
  | sc, .fld c x a, .Attribute a' x' _ => x == x' && (bs.any fun b => decF b == some (c, x)) && baseB a' && chkE sc a a'
  | sc, .mcl c m a es, .Call (.Attribute a' m' apos) es' [] cpos => m == m' && (bs.any fun b => decM b == some (c, m)) && baseB a' && apos.endLine == cpos.line && decide (es'.length < 29) && chkE sc a a' && chkEs sc es es'
  | sc, .mk c es, .Call (.Name x _) es' [] _ => c == x && glB sc x && !dbg x && (bs.any fun b => decK b == some (c, ("" : Str))) && chkEs sc es es'
  | _, _, _ => false
  termination_by structural _ m => m
def chkEs : Scope → Es → List Expr → Bool
  | _, .nil, [] => true
  | sc, .cons e r, e' :: r' => chkE sc e e' && !isStar e' && chkEs sc r r'
  | _, _, _ => false
  termination_by structural _ m => m
def chkO : Scope → Eo → Option Expr → Bool
  | _, .none, none => true
  | sc, .some e, some e' => chkE sc e e'
  | _, _, _ => false
  termination_by structural _ m => m
def chkC : Scope → Eo → List Expr → Bool
  | _, .none, [] => true
  | sc, .some e, [e'] => chkE sc e e'
  | _, _, _ => false
  termination_by structural _ m => m
def chkI : Scope → It → Expr → Expr → Bool
  | sc, .sq e, _, e' => chkE sc e e' && !isSet e'
  | sc, .r1 a, _, .Call (.Name x _) es' [] _ => match es' with
    | [a'] => x == ("range" : Str) && glB sc x && bs.contains x && chkE sc a a' && !isStar a'
    | _ => false
  | sc, .r2 a b, _, .Call (.Name x _) es' [] _ => match es' with
    | [a', b'] => x == ("range" : Str) && glB sc x && bs.contains x && chkE sc a a' && !isStar a' && chkE sc b b' && !isStar b'
    | _ => false
  | sc, .r3 a b c, _, .Call (.Name x _) es' [] _ => match es' with
    | [a', b', c'] => x == ("range" : Str) && glB sc x && bs.contains x && chkE sc a a' && !isStar a' && chkE sc b b' && !isStar b' && chkE sc c c' && !isStar c'
    | _ => false
  | sc, .en e, .Tuple _ _ _, .Call (.Name x _) es' [] _ => match es' with
    | [a'] => x == ("enumerate" : Str) && glB sc x && bs.contains x && chkE sc e a' && !isStar a'
    | _ => false
  | _, _, _, _ => false
  termination_by structural _ m => m
end
end

/-! ### a program's top -/
section
variable (K : PySem.W.Frag) (CA : Str → Option Addr)
/-- the promise of a def whose meaning is g -/
def spC (g : List D → Obs → R D) : Sp := fun vs H Q E => ∃ W obs ds, HRel K CA W H obs ∧ (∀ p r, W.ρ p = some r → r.loose = false) ∧ W.reps K vs ds ∧ match g ds obs with
  | .ok d o => ∀ v W' H', W.leS W' → HRel K CA W' H' o → W'.rep K v d → Q v H'
  | .ex c a o => ∀ cls dd W' H', W.leS W' → HRel K CA W' H' o → XR K CA W' H' cls dd c a → E cls dd H'
  | .bad => False
/-- an exception class with an __init__ that keeps a place, as it is needed to raise and to catch -/
structure ClsOk (P : Program) (w : World) (K : PySem.W.Frag) (mg : Str → Option Value) (base : Heap) (CA : Str → Option Addr) (c : Str) : Prop where
  ex : ∃ C fI fd, CA c = some C ∧ mg c = some (.ref C) ∧ OexC K C ∧ PySem.W.findIn K (.ref C) "__init__" = some (some (.ref fI)) ∧ PySem.W.typeIn K (.ref fI) = some (.type "function") ∧
    FnOk P w K mg base (L2.CX P w) 1 fI fd ["self", "place"] (spInit C) ∧ Binds K fd ["self", "place"] [] ∧ XfC K C ∧ PySem.W.findIn K (.ref C) "place" = some none ∧ PySem.W.exmOne K (.ref C) (.ref C) = some true
/-- the names of such classes among the built-in ones -/
def clsNm (c : Str) : Str := ("!" : Str) ++ c
/-- what a program's top has left, for calls of n defs one in another -/
structure Mo (P : Program) (w : World) (mg : Str → Option Value) (base : Heap) (fs bs : List Str) (G : Str → Option D) (Φ : Str → List D → Obs → R D) (n : Nat) : Prop where
  bi : ∀ x ∈ bs, mg x = none
  gl : ∀ x d, G x = some d → ∃ u v, mg x = some u ∧ RelV v u ∧ Rep K (fun _ => none) [] v d
  fn : ∀ f ∈ fs, ∃ a fd ps, FnOk P w K mg base (L2.CX P w) n a fd ps (spC K CA (Φ f)) ∧ mg f = some (.ref a) ∧ PySem.W.keepIn K (.ref a) = true ∧ Binds K fd ps []
  cl : ∀ c, clsNm c ∈ bs → ClsOk P w K mg base CA c
  me : ∀ b ∈ bs, ∀ c m, decM b = some (c, m) → ∃ C a fd ps, CA c = some C ∧ L2.Cls K C ∧ Meth K C m a ∧ FnOk P w K mg base (L2.CX P w) n a fd ps (spC K CA (Φ (mthQ c m))) ∧ Binds K fd ps []
  ko : ∀ b ∈ bs, ∀ c m, decK b = some (c, m) → ∃ C a fd ps k, CA c = some C ∧ mg c = some (.ref C) ∧ Mk K C a ∧ k + 1 ≤ n ∧ FnOk P w K mg base (L2.CX P w) k a fd ps (spC K CA (Φ (mthQ c "__init__"))) ∧ Binds K fd ps []
  fi : ∀ b ∈ bs, ∀ c x, decF b = some (c, x) → ∃ C, CA c = some C ∧ L2.Cls K C ∧ NoAttr K C x
  two : 2 ≤ n
end
/-- where code stands -/
structure Ctx (CA : Str → Option Addr) (fs bs N : List Str) (G : Str → Option D) (Φ : Str → List D → Obs → R D) (n : Nat) (sc : Scope) (X : Cx) : Prop where
  hN : X.N = N
  nd : N.Nodup
  hsc : X.env.scope = sc
  calm : X.calm = true
  room : Room n X.A
  mo : Mo X.K CA X.prog X.w X.mg X.base fs bs G Φ n
theorem visB_ok {sc : Scope} {x : Str} (h : visB sc x = true) : Vis sc x := by
  unfold visB at h
  split at h
  · exact .inl ‹_›
  · exact .inr (.inl ‹_›)
  · exact .inr (.inr ‹_›)
  · cases h
theorem locB_ok {sc : Scope} {x : Str} (h : locB sc x = true) : Loc sc x := by
  unfold locB at h
  split at h
  · exact .inl ‹_›
  · exact .inr ‹_›
  · cases h
theorem glB_ok {X : Cx} {sc : Scope} {x : Str} (e : X.env.scope = sc) (h : glB sc x = true) : Gl X x := by
  subst e
  unfold glB at h
  split at h
  · rename_i e; exact e
  · cases h
theorem star_ok {e : Expr} {es : List Expr} {env : PySem.Env} (h : isStar e = false) : starEach (e :: es) env = (false, eval e env) :: starEach es env := by
  cases e <;> first | rfl | (simp [isStar] at h)
theorem behind_ok {op : CmpOp} {e : Expr} (h : isSet e = false) : behindInMarks op e = false := by
  cases e <;> first | rfl | (simp [isSet] at h)
theorem plainIx_ok {e : Expr} (h : isSlice e = false) : PlainIx e := fun o i => by
  cases e <;> first | rfl | (simp [isSlice] at h)
theorem folded_ok {e : Expr} {env : PySem.Env} (h : isSet e = false) : ∀ x, foldedSetIterable e env x = pure x := fun x => by
  cases e <;> first | rfl | (simp [isSet] at h)

section
variable {K : PySem.W.Frag} {CA : Str → Option Addr} {W0 : WX} {W W1 : Wd} {H H1 : Hp} {obs : Obs} {env : Env} {σ : L2.St}
/-- a call as its caller sees it -/
theorem call_of {g : List D → Obs → R D} {ds : List D} {vs : List V} {Q : V → Hp → Prop} (S : SRel K CA W σ H env obs) (r : W.reps K vs ds) (h : GP K CA W0 (relE K) W env σ H Q (g ds obs)) : spC K CA g vs H Q (WE W0 σ) := by
  let Wc : Wd := { W with ρ := fun p => match W.ρ p with | some r => if r.loose then (H p).map Role.keep else some r | none => none }
  have hc1 : ∀ p r, W.ρ p = some r → r.loose = false → Wc.ρ p = some r := fun p r e l => by
    show (match W.ρ p with | some r => if r.loose then (H p).map Role.keep else some r | none => none) = some r
    rw [e]; simp [l]
  have hc2 : ∀ p r, W.ρ p = some r → r.loose = true → ∃ o, H p = some o ∧ Wc.ρ p = some (.keep o) := fun p r e l => by
    obtain ⟨o, ho⟩ := S.h.live p r e
    refine ⟨o, ho, ?_⟩
    show (match W.ρ p with | some r => if r.loose then (H p).map Role.keep else some r | none => none) = _
    rw [e]; simp [l, ho]
  have hc3 : ∀ p r, Wc.ρ p = some r → (∃ r0, W.ρ p = some r0 ∧ r0.loose = true ∧ ∃ o, H p = some o ∧ r = .keep o) ∨ (W.ρ p = some r ∧ r.loose = false) := fun p r e => by
    have e' : (match W.ρ p with | some r => if r.loose then (H p).map Role.keep else some r | none => none) = some r := e
    cases q : W.ρ p with
    | none => rw [q] at e'; cases e'
    | some r0 =>
      rw [q] at e'
      cases l : r0.loose with
      | true =>
        obtain ⟨o, ho, _⟩ := hc2 p r0 q l
        simp [l, ho] at e'
        exact .inl ⟨r0, rfl, l, o, ho, e'.symm⟩
      | false =>
        simp [l] at e'; subst e'
        exact .inr ⟨rfl, l⟩
  have lo : W.leO Wc := ⟨fun p r e l => hc1 p r e (Role.solid_loose l), fun _ _ e => e⟩
  have Hc : HRel K CA Wc H obs := by
    refine ⟨fun p o e => ?_, fun p o e => ?_, fun p r e => ?_, S.h.len, fun n ob e => ?_⟩
    · rcases hc3 p _ e with ⟨_, _, _, o', _, z⟩ | ⟨q, _⟩
      · cases z
      · exact S.h.fro p o q
    · rcases hc3 p _ e with ⟨_, _, _, o', ho, z⟩ | ⟨q, _⟩
      · cases z; exact ho
      · exact S.h.keep p o q
    · rcases hc3 p r e with ⟨_, _, _, o', ho, _⟩ | ⟨q, _⟩
      · exact ⟨o', ho⟩
      · exact S.h.live p r q
    · obtain ⟨p, a1, a2, a3⟩ := S.h.obs n ob e
      exact ⟨p, a1, lo.r p _ a2 rfl, a3.mono lo a2 fun _ _ _ _ => rfl⟩
  have back : ∀ {W' : Wd} {H' : Hp} {o : Obs}, Wc.leS W' → HRel K CA W' H' o → ∃ W2, W.leE W2 H H' ∧ SRel K CA W2 σ H' env o ∧ W'.dle W2 := fun {W' H' o} l HR => by
    let W2 : Wd := { W' with ρ := fun p => match W.ρ p with | some r => if r.loose then some r else W'.ρ p | none => W'.ρ p }
    have h1 : ∀ p r, W.ρ p = some r → W2.ρ p = some r := fun p r e => by
      show (match W.ρ p with | some r => if r.loose then some r else W'.ρ p | none => W'.ρ p) = some r
      rw [e]
      cases q : r.loose with
      | true => simp [q]
      | false => simp [q]; exact l.r p r (hc1 p r e q) q
    have h2 : ∀ p r, W.ρ p = some r → r.loose = true → H' p = H p := fun p r e q => by
      obtain ⟨o, ho, hk⟩ := hc2 p r e q
      rw [ho]; exact HR.keep p o (l.r p _ hk rfl)
    have h3 : ∀ p r, W2.ρ p = some r → (W.ρ p = some r ∧ r.loose = true) ∨ (W'.ρ p = some r) := fun p r e => by
      have e' : (match W.ρ p with | some r => if r.loose then some r else W'.ρ p | none => W'.ρ p) = some r := e
      cases q : W.ρ p with
      | none => rw [q] at e'; exact .inr e'
      | some r0 =>
        rw [q] at e'
        cases z : r0.loose with
        | true => simp [z] at e'; subst e'; exact .inl ⟨rfl, z⟩
        | false => simp [z] at e'; exact .inr e'
    have h4 : W'.leO W2 := ⟨fun p r e q => (by
      show (match W.ρ p with | some r => if r.loose then some r else W'.ρ p | none => W'.ρ p) = some r
      cases z : W.ρ p with
      | none => exact e
      | some r0 =>
        cases y : r0.loose with
        | false => simp [y]; exact e
        | true =>
          obtain ⟨o, _, hk⟩ := hc2 p r0 z y
          have := l.r p _ hk rfl
          rw [e] at this; cases this; cases q), fun _ _ e => e⟩
    have le : W.leE W2 H H' := ⟨h1, h2, fun n p e => l.a n p e⟩
    refine ⟨W2, le, ⟨⟨fun p o e => ?_, fun p o e => ?_, fun p r e => ?_, HR.len, fun n ob e => ?_⟩, S.len, fun i s e => ?_⟩, h4.d⟩
    · rcases h3 p _ e with ⟨_, q⟩ | q
      · cases q
      · exact HR.fro p o q
    · rcases h3 p _ e with ⟨_, q⟩ | q
      · cases q
      · exact HR.keep p o q
    · rcases h3 p r e with ⟨q, z⟩ | q
      · obtain ⟨o, ho, _⟩ := hc2 p r q z
        exact ⟨o, by rw [h2 p r q z]; exact ho⟩
      · exact HR.live p r q
    · obtain ⟨p, a1, a2, a3⟩ := HR.obs n ob e
      exact ⟨p, a1, h4.r p _ a2 rfl, a3.mono h4 a2 fun _ _ _ _ => rfl⟩
    · exact SlR.mono le.d (fun p q => ⟨h1 p _ q, h2 p _ q rfl⟩) (S.sl i s e)
  refine ⟨Wc, obs, ds, Hc, fun p r e => ?_, lo.d.reps r, ?_⟩
  · rcases hc3 p r e with ⟨_, _, _, _, _, z⟩ | ⟨_, q⟩
    · subst z; rfl
    · exact q
  · cases q : g ds obs with
    | ok d o =>
      intro v W' H' l HR rv
      obtain ⟨W2, le, S2, dl⟩ := back l HR
      rw [q] at h
      exact h v W2 H' le S2 (dl.rep rv)
    | ex c a o =>
      intro cls dd W' H' l HR rx
      obtain ⟨W2, le, S2, dl⟩ := back l HR
      rw [q] at h
      refine h cls dd W2 H' le S2 ?_
      cases a with
      | non => exact rx
      | _ =>
        obtain ⟨C, d1, v, e1, e2, e3, e4, e5⟩ := rx
        exact ⟨C, d1, v, e1, e2, e3, e4, dl.rep e5⟩
    | bad => rw [q] at h; exact h
end
end Mp

set_option Elab.async false
set_option linter.all false
set_option maxRecDepth 100000
/-! What is walked; comprehensions. -/
namespace Mp
open PySem PySem.Spec PyProof.Rows L2

theorem PI.or {X : Cx} {tg it : Expr} {w w' : TI} (h : PI X tg it w) (h' : PI X tg it w') : PI X tg it (fun σ H R => w σ H R ∨ w' σ H R) :=
  ⟨fun pins s σ H R I q => q.elim (h.run pins s σ H R I) (h'.run pins s σ H R I)⟩
theorem PI.weak {X : Cx} {tg it : Expr} {t t' : TI} (h : PI X tg it t) (w : ∀ σ H Q, t' σ H Q → t σ H Q) : PI X tg it t' := ⟨fun pins s σ H Q I q => h.run pins s σ H Q I (w σ H Q q)⟩

section
variable (K : PySem.W.Frag) (CA : Str → Option Addr)
/-- an iterator that gives the data ds, one after another, whatever is done meanwhile -/
structure Wlk (W : Wd) (J : L2.It) (ds : List D) : Prop where
  go : ∀ (i : Nat) (d : D) (W2 : Wd) (σ : L2.St) (H2 : Hp) (env : Env) (o : Obs), W.leS W2 → SRel K CA W2 σ H2 env o → ds[i]? = some d → J.go i H2 ∧ ∀ x H3, J.yld i H2 x H3 → ∃ W3, W2.leE W3 H2 H3 ∧ SRel K CA W3 σ H3 env o ∧ W3.rep K x d
  stop : ∀ (i : Nat) (W2 : Wd) (σ : L2.St) (H2 : Hp) (env : Env) (o : Obs), W.leS W2 → SRel K CA W2 σ H2 env o → ds.length ≤ i → J.stop i H2
abbrev relI : Rl (List D) L2.It := fun _ W' _ J ds => Wlk K CA W' J ds
end
section
variable {K : PySem.W.Frag} {CA : Str → Option Addr}
theorem earlyI : Rl.Early (relI K CA) := fun _ _ _ _ _ _ _ _ _ h => h
theorem wlk_list {W : Wd} {a : Addr} {vs : List V} {ds : List D} (hF : W.F a = some (.lst vs)) (r : W.reps K vs ds) : Wlk K CA W (Itl K a) ds := by
  refine ⟨fun i d W2 σ H2 env o l S e => ?_, fun i W2 σ H2 env o l S e => ?_⟩
  · have h2 : H2 a = some (.lst vs) := S.h.fro a _ (l.r a _ (Wd.F_of.mp hF) rfl)
    obtain ⟨v, hv, rv⟩ := r.get e
    refine ⟨⟨vs, v, SqL.of h2, hv⟩, fun x H3 ⟨e3, hx⟩ => ?_⟩
    subst e3
    have := hx vs (SqL.of h2)
    rw [hv] at this; cases this
    exact ⟨W2, .refl, S, l.d.rep rv⟩
  · have h2 : H2 a = some (.lst vs) := S.h.fro a _ (l.r a _ (Wd.F_of.mp hF) rfl)
    exact ⟨vs, SqL.of h2, by rw [r.length]; exact e⟩
theorem wlk_tup {W : Wd} {a : Addr} {vs : List V} {ds : List D} (hF : SqT K W.F a vs) (r : W.reps K vs ds) : Wlk K CA W (Itt K a) ds := by
  refine ⟨fun i d W2 σ H2 env o l S e => ?_, fun i W2 σ H2 env o l S e => ?_⟩
  · have h2 : SqT K H2 a vs := SqT.mono hF fun p o q => S.h.fro p o (l.r p _ (Wd.F_of.mp q) rfl)
    obtain ⟨v, hv, rv⟩ := r.get e
    refine ⟨⟨vs, v, h2, hv⟩, fun x H3 ⟨e3, hx⟩ => ?_⟩
    subst e3
    have := hx vs h2
    rw [hv] at this; cases this
    exact ⟨W2, .refl, S, l.d.rep rv⟩
  · have h2 : SqT K H2 a vs := SqT.mono hF fun p o q => S.h.fro p o (l.r p _ (Wd.F_of.mp q) rfl)
    exact ⟨vs, h2, by rw [r.length]; exact e⟩
theorem rangeD_get {lo c : Int} {n i : Nat} {d : D} (e : (rangeD lo n c)[i]? = some d) : i < n ∧ d = .int (lo + (i : Nat) * c) := by
  unfold rangeD at e
  rw [List.getElem?_map] at e
  cases q : (List.range n)[i]? with
  | none => rw [q] at e; cases e
  | some j =>
    rw [q] at e
    have hj := List.getElem?_range (n := n) (i := i)
    obtain ⟨h1, h2⟩ := List.getElem?_eq_some_iff.mp q
    rw [List.length_range] at h1
    rw [List.getElem_range] at h2
    subst h2
    exact ⟨h1, (Option.some.inj e).symm⟩
theorem rangeD_length {lo c : Int} {n : Nat} : (rangeD lo n c).length = n := by simp [rangeD]
theorem wlk_range {W : Wd} {lo : Int} {n : Nat} : Wlk K CA W (Itr lo n) (rangeD lo n 1) := by
  refine ⟨fun i d W2 σ H2 env o l S e => ?_, fun i W2 σ H2 env o l S e => ?_⟩
  · obtain ⟨h1, h2⟩ := rangeD_get e
    refine ⟨h1, fun x H3 ⟨e3, hx⟩ => ?_⟩
    subst e3; subst hx; subst h2
    exact ⟨W2, .refl, S, by rw [Int.mul_one]; exact .int _⟩
  · rw [rangeD_length] at e; exact e
theorem wlk_rangeC {W : Wd} {lo c : Int} {n : Nat} : Wlk K CA W (Itc lo c n) (rangeD lo n c) := by
  refine ⟨fun i d W2 σ H2 env o l S e => ?_, fun i W2 σ H2 env o l S e => ?_⟩
  · obtain ⟨h1, h2⟩ := rangeD_get e
    refine ⟨h1, fun x H3 ⟨e3, hx⟩ => ?_⟩
    subst e3; subst hx; subst h2
    exact ⟨W2, .refl, S, .int _⟩
  · rw [rangeD_length] at e; exact e
theorem enumD_get {ds : List D} {i : Nat} {d : D} (e : (enumD ds)[i]? = some d) : ∃ x, ds[i]? = some x ∧ d = .tup [.int (i : Nat), x] := by
  unfold enumD at e
  rw [List.getElem?_map, List.getElem?_zipIdx] at e
  cases q : ds[i]? with
  | none => rw [q] at e; simp at e
  | some x =>
    rw [q] at e
    simp at e
    exact ⟨x, rfl, e.symm⟩
theorem wlk_enum {W : Wd} {a : Addr} {vs : List V} {ds : List D} (hF : W.F a = some (.lst vs)) (r : W.reps K vs ds) : Wlk K CA W (Ite K a) (enumD ds) := by
  refine ⟨fun i d W2 σ H2 env o l S e => ?_, fun i W2 σ H2 env o l S e => ?_⟩
  · have h2 : H2 a = some (.lst vs) := S.h.fro a _ (l.r a _ (Wd.F_of.mp hF) rfl)
    obtain ⟨y, hy, rfl⟩ := enumD_get e
    obtain ⟨v, hv, rv⟩ := r.get hy
    refine ⟨⟨vs, v, SqL.of h2, hv⟩, fun x H3 hx => ?_⟩
    obtain ⟨T, z, ex, hT, e3, hz⟩ := hx
    have := hz vs (SqL.of h2)
    rw [hv] at this; cases this
    subst e3; subst ex
    have n := S.h.fresh hT
    refine ⟨W2.put T (.fro (.tup [.int (i : Nat), v])), leE_add n, S.add hT (fun u e => by injection e with e; exact e.symm) (fun u e => nomatch e), .tup (.inl (.inl (Wd.F_of.mpr Wd.put_same))) (.cons (.int _) (.cons ?_ .nil))⟩
    exact (leE_add (H := H2) (o := .tup [.int (i : Nat), v]) n).d.rep (l.d.rep rv)
  · have h2 : H2 a = some (.lst vs) := S.h.fro a _ (l.r a _ (Wd.F_of.mp hF) rfl)
    exact ⟨vs, SqL.of h2, by rw [r.length]; simpa [enumD] using e⟩
theorem wlk_enumT {W : Wd} {a : Addr} {vs : List V} {ds : List D} (hF : SqT K W.F a vs) (r : W.reps K vs ds) : Wlk K CA W (IteT K a) (enumD ds) := by
  have up : ∀ {W2 : Wd} {H2 : Hp} {env : Env} {o : Obs} {σ : L2.St}, W.leS W2 → SRel K CA W2 σ H2 env o → SqT K H2 a vs := fun l S => SqT.mono hF fun p o q => S.h.fro p o (l.r p _ (Wd.F_of.mp q) rfl)
  refine ⟨fun i d W2 σ H2 env o l S e => ?_, fun i W2 σ H2 env o l S e => ⟨vs, up l S, by rw [r.length]; simpa [enumD] using e⟩⟩
  obtain ⟨y, hy, rfl⟩ := enumD_get e
  obtain ⟨v, hv, rv⟩ := r.get hy
  refine ⟨⟨vs, v, up l S, hv⟩, fun x H3 ⟨T, z, ex, hT, e3, hz⟩ => ?_⟩
  have := hz vs (up l S)
  rw [hv] at this; cases this
  subst e3; subst ex
  have n := S.h.fresh hT
  refine ⟨W2.put T (.fro (.tup [.int (i : Nat), v])), leE_add n, S.add hT (fun u e => by injection e with e; exact e.symm) (fun u e => nomatch e), .tup (.inl (.inl (Wd.F_of.mpr Wd.put_same))) (.cons (.int _) (.cons ?_ .nil))⟩
  exact (leE_add (H := H2) (o := .tup [.int (i : Nat), v]) n).d.rep (l.d.rep rv)
end

/-! ### slots wiped and set -/
theorem wipe_get {σ : L2.St} {i : Nat} {vs : List Nat} (h : i ∈ vs) (hi : i < σ.length) : (wipe σ vs)[i]? = some none := by
  induction vs with
  | nil => cases h
  | cons v vs ih =>
    unfold wipe
    by_cases e : v = i
    · subst e
      rw [List.getElem?_set_self (by rw [wipe_length]; exact hi)]
    · rw [List.getElem?_set_ne e]
      rcases List.mem_cons.mp h with q | q
      · exact absurd q.symm e
      · exact ih q
theorem wipe_eq {σ τ : L2.St} {vs : List Nat} (hl : τ.length = σ.length) (h : ∀ i, i ∉ vs → τ[i]? = σ[i]?) : wipe τ vs = wipe σ vs := by
  apply List.ext_getElem?
  intro i
  by_cases hi : i ∈ vs
  · by_cases hs : i < σ.length
    · rw [wipe_get hi hs, wipe_get hi (by rw [hl]; exact hs)]
    · rw [List.getElem?_eq_none (by rw [wipe_length]; omega), List.getElem?_eq_none (by rw [wipe_length]; omega)]
  · rw [wipe_out hi, wipe_out hi, h i hi]
theorem wipe_wipe (σ : L2.St) (vs : List Nat) : wipe (wipe σ vs) vs = wipe σ vs := wipe_eq (wipe_length _ _) fun i hi => wipe_out hi
theorem wipe_set {σ : L2.St} {i : Nat} {x : Option V} {vs : List Nat} (hi : i ∈ vs) : wipe (σ.set i x) vs = wipe σ vs := wipe_eq (by simp) fun j hj => by
  rw [List.getElem?_set_ne fun e => hj (by rw [← e]; exact hi)]
theorem wipeE_length (env : Env) : ∀ vs : List Nat, (wipeE env vs).length = env.length
  | [] => rfl
  | v :: vs => by unfold wipeE; rw [List.length_set, wipeE_length env vs]
theorem wipeE_out {env : Env} {i : Nat} : ∀ {vs : List Nat}, i ∉ vs → (wipeE env vs)[i]? = env[i]?
  | [], _ => rfl
  | v :: vs, h => by
    unfold wipeE
    rw [List.getElem?_set_ne fun e => h (by rw [e]; exact List.mem_cons_self)]
    exact wipeE_out fun q => h (List.mem_cons_of_mem _ q)
theorem wipeE_in {env : Env} {i : Nat} {s : Sl} : ∀ {vs : List Nat}, i ∈ vs → (wipeE env vs)[i]? = some s → s = .un
  | v :: vs, h, e => by
    unfold wipeE at e
    by_cases q : v = i
    · subst q
      rw [List.getElem?_set_self (by have := (List.getElem?_eq_some_iff.mp e).1; simpa [wipeE_length] using this)] at e
      exact (Option.some.inj e).symm
    · rw [List.getElem?_set_ne q] at e
      rcases List.mem_cons.mp h with z | z
      · exact absurd z.symm q
      · exact wipeE_in z e
section
variable {K : PySem.W.Frag} {CA : Str → Option Addr} {W : Wd} {σ : L2.St} {H : Hp} {env : Env} {obs : Obs}
theorem SRel.wipe (S : SRel K CA W σ H env obs) (vs : List Nat) : SRel K CA W (L2.wipe σ vs) H (wipeE env vs) obs :=
  S.weak (by rw [wipe_length, wipeE_length]; exact S.len) fun i s e => by
    by_cases hi : i ∈ vs
    · exact .inl (wipeE_in hi e)
    · rw [wipeE_out hi] at e
      exact .inr ⟨e, wipe_out hi⟩
/-- targets -/
def setV : List Nat → List V → L2.St → L2.St
  | i :: is, v :: vs, σ => setV is vs (σ.set i (some v))
  | _, _, σ => σ
theorem SRel.setTs : ∀ {ts : List Nat} {vs : List V} {ds : List D} {σ : L2.St} {env env' : Env}, SRel K CA W σ H env obs → W.reps K vs ds → setTs ts ds env = some env' → SRel K CA W (setV ts vs σ) H env' obs
  | [], _, _, _, _, _, S, .nil, e => by cases e; exact S
  | i :: is, v :: vs, d :: ds, σ, env, env', S, .cons r rs, e => by
    show SRel K CA W (setV is vs (σ.set i (some v))) H env' obs
    exact SRel.setTs (S.set (i := i) (s := .v d) ⟨v, rfl, r⟩) rs e
  | [], _, _, _, _, _, _, .cons _ _, e => by cases e
  | _ :: _, _, _, _, _, _, _, .nil, e => by cases e
theorem setV_wipe : ∀ {ts : List Nat} {vs : List V} {σ : L2.St} {own : List Nat}, (∀ i ∈ ts, i ∈ own) → L2.wipe (setV ts vs σ) own = L2.wipe σ own
  | [], _, _, _, _ => rfl
  | _ :: _, [], _, _, _ => rfl
  | i :: is, v :: vs, σ, own, h => by
    show L2.wipe (setV is vs (σ.set i (some v))) own = _
    rw [setV_wipe fun j hj => h j (List.mem_cons_of_mem _ hj), wipe_set (h i List.mem_cons_self)]
end
/-- the targets of a tuple -/
def gNms : List Nat → TGs
  | [] => gNil
  | i :: is => gCons (gName i) (gNms is)
theorem gNms_of : ∀ {ts : List Nat} {vs : List V} {σ : L2.St} {H : Hp} {Q : L2.St → Hp → Prop}, vs.length = ts.length → Q (setV ts vs σ) H → gNms ts vs σ H Q
  | [], [], _, _, _, _, q => ⟨rfl, q⟩
  | [], _ :: _, _, _, _, h, _ => by cases h
  | _ :: _, [], _, _, _, h, _ => by cases h
  | i :: is, v :: vs, _, _, _, h, q => ⟨v, vs, rfl, gNms_of (by simpa using h) q⟩
def gT1 (K : PySem.W.Frag) : Nat ⊕ List Nat → TG
  | .inl i => gName i
  | .inr ts => gTup K ts.length (gNms ts)
def gTt (K : PySem.W.Frag) : List (Nat ⊕ List Nat) → TGs
  | [] => gNil
  | t :: ts => gCons (gT1 K t) (gTt K ts)
def gTg (K : PySem.W.Frag) : Tg → TG
  | .nm i => gName i
  | .tp ts => gTup K ts.length (gNms ts)
  | .tt ts => gTup K ts.length (gTt K ts)
/-- the slots of a target -/
def slT1 : Nat ⊕ List Nat → List Nat
  | .inl i => [i]
  | .inr ts => ts
def slTt : List (Nat ⊕ List Nat) → List Nat
  | [] => []
  | t :: ts => slT1 t ++ slTt ts
def Tg.sl : Tg → List Nat
  | .nm i => [i]
  | .tp ts => ts
  | .tt ts => slTt ts
section
variable {X : Cx} {N : List Str} {sc : Scope}
abbrev LocOk (X : Cx) (sc : Scope) : Prop := ∀ x, locB sc x = true → Loc X.env.scope x ∧ (X.fn x = true ∨ X.env.scope.names.lookup x = some .local)
theorem pg_nm1 (hN : X.N = N) (nd : N.Nodup) (hsc : LocOk X sc) {own : List Nat} {i : Nat} {e : Expr} (h : chkNm1 sc N own i e = true) : PG X e (gName i) ∧ i ∈ own ∧ ∀ es, assignEach (e :: es) X.env = (false, assign e X.env) :: assignEach es X.env := by
  cases e with
  | Name x pos =>
    simp only [chkNm1, Bool.and_eq_true, decide_eq_true_eq] at h
    obtain ⟨⟨a, b⟩, c⟩ := h
    obtain ⟨l1, l2⟩ := hsc x b
    exact ⟨pg_name (by rw [hN]; exact nd) (by rw [hN]; exact a) l1 l2, by simpa using c, fun _ => rfl⟩
  | _ => simp [chkNm1] at h
theorem pg_nm2 (hN : X.N = N) (nd : N.Nodup) (hsc : LocOk X sc) {own : List Nat} : ∀ {ts : List Nat} {es : List Expr}, chkNm2 sc N own ts es = true →
    PGs X es (gNms ts) ∧ (∀ i ∈ ts, i ∈ own) ∧ (assignEach es X.env).length = ts.length ∧ (assignEach es X.env).findIdx? (·.1) = none
  | [], [], _ => ⟨pgs_nil, by simp, rfl, rfl⟩
  | [], _ :: _, h => by simp [chkNm2] at h
  | _ :: _, [], h => by simp [chkNm2] at h
  | t :: ts, e :: es, h => by
    simp only [chkNm2, Bool.and_eq_true] at h
    obtain ⟨h1, h2, h3, h4⟩ := pg_nm2 hN nd hsc h.2
    obtain ⟨g1, g2, g3⟩ := pg_nm1 hN nd hsc h.1
    refine ⟨pgs_cons g1 h1 (by rw [g3 es]; rfl), ?_, ?_, ?_⟩
    · intro i hi
      rcases List.mem_cons.mp hi with rfl | hi
      · exact g2
      · exact h2 i hi
    · rw [g3 es, List.length_cons, h3]; rfl
    · rw [g3 es, List.findIdx?_cons]
      simp [h4]
theorem pg_t1 (hN : X.N = N) (nd : N.Nodup) (hc : X.calm = true) (hsc : LocOk X sc) {own : List Nat} {t : Nat ⊕ List Nat} {e : Expr} (h : chkT1 sc N own t e = true) : PG X e (gT1 X.K t) ∧ (∀ i ∈ slT1 t, i ∈ own) ∧ ∀ es, assignEach (e :: es) X.env = (false, assign e X.env) :: assignEach es X.env := by
  cases t with
  | inl i =>
    obtain ⟨g1, g2, g3⟩ := pg_nm1 hN nd hsc (by simpa only [chkT1] using h)
    refine ⟨g1, ?_, g3⟩
    intro j hj
    simp only [slT1, List.mem_singleton] at hj
    subst hj; exact g2
  | inr ts =>
    cases e with
    | Tuple es k pos =>
      obtain ⟨h1, h2, h3, h4⟩ := pg_nm2 hN nd hsc (by simpa only [chkT1] using h)
      exact ⟨pg_tup hc h1 h3 h4, h2, fun _ => rfl⟩
    | _ => simp [chkT1] at h
theorem pg_tt (hN : X.N = N) (nd : N.Nodup) (hc : X.calm = true) (hsc : LocOk X sc) {own : List Nat} : ∀ {ts : List (Nat ⊕ List Nat)} {es : List Expr}, chkTt sc N own ts es = true →
    PGs X es (gTt X.K ts) ∧ (∀ i ∈ slTt ts, i ∈ own) ∧ (assignEach es X.env).length = ts.length ∧ (assignEach es X.env).findIdx? (·.1) = none
  | [], [], _ => ⟨pgs_nil, by simp [slTt], rfl, rfl⟩
  | [], _ :: _, h => by simp [chkTt] at h
  | _ :: _, [], h => by simp [chkTt] at h
  | t :: ts, e :: es, h => by
    simp only [chkTt, Bool.and_eq_true] at h
    obtain ⟨h1, h2, h3, h4⟩ := pg_tt hN nd hc hsc h.2
    obtain ⟨g1, g2, g3⟩ := pg_t1 hN nd hc hsc h.1
    refine ⟨pgs_cons g1 h1 (by rw [g3 es]; rfl), ?_, ?_, ?_⟩
    · intro i hi
      rcases List.mem_append.mp hi with hi | hi
      · exact g2 i hi
      · exact h2 i hi
    · rw [g3 es, List.length_cons, h3]; rfl
    · rw [g3 es, List.findIdx?_cons]
      simp [h4]
theorem pg_of (hN : X.N = N) (nd : N.Nodup) (hc : X.calm = true) (hsc : LocOk X sc) {own : List Nat} {tg : Tg} {e : Expr} (h : chkTg sc N own tg e = true) :
    PG X e (gTg X.K tg) ∧ ∀ i ∈ tg.sl, i ∈ own := by
  cases tg with
  | nm i =>
    obtain ⟨g1, g2, _⟩ := pg_nm1 hN nd hsc (by simpa only [chkTg] using h)
    refine ⟨g1, ?_⟩
    intro j hj
    simp only [Tg.sl, List.mem_singleton] at hj
    subst hj; exact g2
  | tp ts =>
    cases e with
    | Tuple es k pos =>
      obtain ⟨h1, h2, h3, h4⟩ := pg_nm2 hN nd hsc (by simpa only [chkTg] using h)
      exact ⟨pg_tup hc h1 h3 h4, h2⟩
    | _ => simp [chkTg] at h
  | tt ts =>
    cases e with
    | Tuple es k pos =>
      obtain ⟨h1, h2, h3, h4⟩ := pg_tt hN nd hc hsc (by simpa only [chkTg] using h)
      exact ⟨pg_tup hc h1 h3 h4, h2⟩
    | _ => simp [chkTg] at h
end
/-- the state behind a store: only these slots are other -/
def SameBut (σ σ' : L2.St) (is : List Nat) : Prop := σ'.length = σ.length ∧ ∀ i, i ∉ is → σ'[i]? = σ[i]?
theorem SameBut.wipe {σ σ' : L2.St} {is own : List Nat} (h : SameBut σ σ' is) (s : ∀ i ∈ is, i ∈ own) : L2.wipe σ' own = L2.wipe σ own := wipe_eq h.1 fun i hi => h.2 i fun z => hi (s i z)
theorem SameBut.refl {σ : L2.St} {is : List Nat} : SameBut σ σ is := ⟨rfl, fun _ _ => rfl⟩
theorem SameBut.set {σ : L2.St} {i : Nat} {x : Option V} : SameBut σ (σ.set i x) [i] := ⟨by simp, fun j hj => by rw [List.getElem?_set_ne fun e => hj (by rw [e]; exact List.mem_singleton.mpr rfl)]⟩
theorem SameBut.trans {σ σ1 σ2 : L2.St} {a b : List Nat} (h : SameBut σ σ1 a) (g : SameBut σ1 σ2 b) : SameBut σ σ2 (a ++ b) := ⟨g.1.trans h.1, fun i hi => by
  rw [List.mem_append, not_or] at hi
  exact (g.2 i hi.2).trans (h.2 i hi.1)⟩
theorem SameBut.setV : ∀ {ts : List Nat} {vs : List V} {σ : L2.St}, SameBut σ (setV ts vs σ) ts
  | [], _, _ => .refl
  | _ :: _, [], _ => .refl
  | i :: is, v :: vs, σ => by
    show SameBut σ (Mp.setV is vs (σ.set i (some v))) ([i] ++ is)
    exact SameBut.set.trans SameBut.setV
section
variable {K : PySem.W.Frag} {CA : Str → Option Addr} {W : Wd} {σ : L2.St} {H : Hp} {env : Env} {obs : Obs}
theorem t1_of {t : Nat ⊕ List Nat} {v : V} {d : D} {env' : Env} {Q : L2.St → Hp → Prop} (S : SRel K CA W σ H env obs) (r : W.rep K v d) (e : setT1 t d env = some env')
    (q : ∀ σ', SRel K CA W σ' H env' obs → SameBut σ σ' (slT1 t) → Q σ' H) : gT1 K t v σ H Q := by
  cases t with
  | inl i =>
    cases e
    exact q _ (S.set (s := .v d) ⟨v, rfl, r⟩) .set
  | inr ts =>
    unfold setT1 at e
    cases d with
    | tup ds =>
      simp only at e
      split at e
      · rename_i hl
        obtain ⟨p, vs, rfl, h1, r1⟩ := S.tup r
        exact ⟨p, vs, rfl, h1, by rw [r1.length]; exact hl, gNms_of (by rw [r1.length]; exact hl) (q _ (S.setTs r1 e) .setV)⟩
      · cases e
    | _ => cases e
theorem tt_of : ∀ {ts : List (Nat ⊕ List Nat)} {vs : List V} {ds : List D} {σ : L2.St} {env env' : Env} {Q : L2.St → Hp → Prop}, SRel K CA W σ H env obs → W.reps K vs ds → setTt ts ds env = some env' →
    (∀ σ', SRel K CA W σ' H env' obs → SameBut σ σ' (slTt ts) → Q σ' H) → gTt K ts vs σ H Q
  | [], [], [], σ, env, env', Q, S, _, e, q => by cases e; exact ⟨rfl, q σ S .refl⟩
  | t :: ts, v :: vs, d :: ds, σ, env, env', Q, S, .cons r rs, e, q => by
    unfold setTt at e
    rw [Option.bind_eq_some_iff] at e
    obtain ⟨env1, e1, e2⟩ := e
    refine ⟨v, vs, rfl, t1_of S r e1 fun σ1 S1 b1 => ?_⟩
    exact tt_of S1 rs e2 fun σ2 S2 b2 => q σ2 S2 (b1.trans b2)
  | [], _ :: _, _ :: _, _, _, _, _, _, _, e, _ => by cases e
  | _ :: _, [], [], _, _, _, _, _, _, e, _ => by cases e
/-- a target is stored to -/
theorem tg_of {tg : Tg} {v : V} {d : D} {env' : Env} {Q : L2.St → Hp → Prop} (S : SRel K CA W σ H env obs) (r : W.rep K v d) (e : setTg tg d env = some env')
    (q : ∀ σ', SRel K CA W σ' H env' obs → SameBut σ σ' tg.sl → Q σ' H) : gTg K tg v σ H Q := by
  cases tg with
  | nm i =>
    cases e
    exact q _ (S.set (s := .v d) ⟨v, rfl, r⟩) .set
  | tp ts =>
    unfold setTg at e
    cases d with
    | tup ds =>
      simp only at e
      split at e
      · rename_i hl
        obtain ⟨p, vs, rfl, h1, r1⟩ := S.tup r
        exact ⟨p, vs, rfl, h1, by rw [r1.length]; exact hl, gNms_of (by rw [r1.length]; exact hl) (q _ (S.setTs r1 e) .setV)⟩
      · cases e
    | _ => cases e
  | tt ts =>
    unfold setTg at e
    cases d with
    | tup ds =>
      simp only at e
      split at e
      · rename_i hl
        obtain ⟨p, vs, rfl, h1, r1⟩ := S.tup r
        exact ⟨p, vs, rfl, h1, by rw [r1.length]; exact hl, tt_of S r1 e q⟩
      · cases e
    | _ => cases e
/-- a list that is made grows -/
theorem SRel.grow {p : Addr} {xs ys : List V} (S : SRel K CA W σ H env obs) (hr : W.ρ p = some .acc) : SRel K CA W σ (upd H p (.lst ys)) env obs := by
  have ne : ∀ q r', W.ρ q = some r' → r' ≠ .acc → q ≠ p := fun q r' e l z => by rw [z, hr] at e; cases e; exact l rfl
  refine ⟨⟨fun q u e => ?_, fun q u e => ?_, fun q u e => ?_, S.h.len, fun n ob e => ?_⟩, S.len, fun j t e => ?_⟩
  · rw [upd_ne (ne q _ e (by simp))]; exact S.h.fro q u e
  · rw [upd_ne (ne q _ e (by simp))]; exact S.h.keep q u e
  · by_cases hq : q = p
    · subst hq; exact ⟨_, upd_same⟩
    · rw [upd_ne hq]; exact S.h.live q u e
  · obtain ⟨q, a1, a2, a3⟩ := S.h.obs n ob e
    refine ⟨q, a1, a2, a3.mono Wd.leS.refl.o a2 fun q r z hz => upd_ne (ne q r z ?_)⟩
    rcases hz with rfl | rfl <;> simp
  · exact SlR.mono .refl (fun q z => ⟨z, upd_ne (ne q _ z (by simp))⟩) (S.sl j t e)
end
/-- THE COMPREHENSION: the reading of [elt for tg in it if c] from the data's -/
theorem lc_of {K : PySem.W.Frag} {CA : Str → Option Addr} {W0 : WX} {di : Env → Obs → R (List D)} {t : Env → Obs → R Bool} {x : Env → Obs → R D} {own : List Nat} {tg : Tg} {σ : L2.St} {H : Hp} {Q : V → Hp → Prop} (ht : ∀ i ∈ tg.sl, i ∈ own)
    (h : LF K CA W0 (fun env o => (di env o).bind fun ds o => lcD own tg t x env ds [] o) σ H Q) :
    tLc (LG K CA W0 (relI K CA) di) (gTg K tg) (LT K CA (fun _ _ _ _ => False) t) (LE K CA (fun _ _ _ _ => False) x) own σ H Q := by
  obtain ⟨W, env, obs, S, h⟩ := h
  refine LG.bnd earlyF S h fun ds o1 J W1 H1 l1 S1 wk h1 => ?_
  intro Dd hD
  have hn := S1.h.fresh hD
  let inv : Nat → Nat → Hp → Prop := fun i m H' => m = ds.length - i ∧ ∃ Wd acc vs o, W1.leE Wd H1 H' ∧ SRel K CA Wd σ H' env o ∧ Wd.ρ Dd = some .acc ∧ H' Dd = some (.lst vs) ∧ Wd.reps K vs acc ∧
    GP K CA W0 (relF K) W1 env σ H1 Q (lcD own tg t x env (ds.drop i) acc o)
  refine ⟨inv, ⟨ds.length, by simp, W1.put Dd .acc, [], [], o1, leE_add hn, S1.add hD (fun u e => nomatch e) (fun u e => nomatch e), Wd.put_same, upd_same, .nil, by rw [List.drop_zero]; exact h1⟩, ?_⟩
  rintro i m H2 ⟨rfl, Wd, acc, vs, o, le, S2, ra, ha, rs, g⟩
  cases hd : ds.drop i with
  | nil =>
    rw [hd] at g
    have hlen : ds.length ≤ i := List.drop_eq_nil_iff.mp hd
    exact .inl ⟨wk.stop i Wd σ H2 env o le.s S2 hlen, g (.ref Dd) Wd H2 le S2 ⟨Dd, vs, rfl, hn, ra, ha, rs⟩⟩
  | cons d rest =>
    rw [hd] at g
    have hil : i < ds.length := by
      apply Nat.lt_of_not_le
      intro q
      rw [List.drop_eq_nil_of_le q] at hd; cases hd
    have hdi : ds[i]? = some d := by
      have := List.getElem?_drop (xs := ds) (i := i) (j := 0)
      rw [hd] at this; simpa using this.symm
    have hrest : ds.drop (i + 1) = rest := by
      have := List.drop_drop (i := 1) (j := i) (l := ds)
      rw [hd] at this; simpa [Nat.add_comm] using this.symm
    obtain ⟨hgo, hy⟩ := wk.go i d Wd σ H2 env o le.s S2 hdi
    refine .inr ⟨hgo, fun H' => inv (i + 1) (ds.length - (i + 1)) H', fun H' q => ⟨ds.length - (i + 1), by omega, q⟩, fun v H3 y3 => ?_⟩
    obtain ⟨W3, le3, S3, rv⟩ := hy v H3 y3
    have ra3 : W3.ρ Dd = some .acc := le3.r _ _ ra
    have ha3 : H3 Dd = some (.lst vs) := (le3.o _ _ ra rfl).trans ha
    unfold lcD at g
    cases es : setTg tg d (wipeE env own) with
    | none => rw [es] at g; exact g.elim
    | some env' =>
      rw [es] at g
      simp only at g
      refine tg_of (S3.wipe own) rv es fun σ' S4 sb => ?_
      have wp : L2.wipe σ' own = L2.wipe σ own := by rw [sb.wipe ht, wipe_wipe]
      refine ⟨wp, W3, env', o, S4, ?_⟩
      have backS : ∀ {W' : Mp.Wd} {H' : Hp} {o' : Obs} , W3.leE W' H3 H' → SRel K CA W' σ' H' env' o' → SRel K CA W' σ H' env o' := fun {W' H' o'} l S' =>
        ⟨S'.h, S3.len, fun j s e => SlR.mono l.d (fun p z => ⟨l.r p _ z, l.o p _ z rfl⟩) (S3.sl j s e)⟩
      cases et : t env' o with
      | bad => rw [et] at g; exact g.elim
      | ex c a o' => rw [et] at g; exact g.elim
      | ok b o2 =>
        rw [et] at g
        intro b' W4 H4 l4 S5 hb
        have hb : b' = b := hb
        subst hb
        cases b' with
        | false =>
          simp only [Bool.false_eq_true, if_false, R.noex_ok, R.bind_ok] at g ⊢
          have S6 := backS l4 S5
          exact ⟨rfl, W4, acc, vs, o2, le.trans (le3.trans l4), S6, l4.r _ _ ra3, (l4.o _ _ ra3 rfl).trans ha3, (le3.trans l4).d.reps rs, by rw [hrest]; exact g⟩
        | true =>
          simp only [if_true, R.noex_ok, R.bind_ok] at g ⊢
          refine ⟨W4, env', o2, S5, ?_⟩
          cases ex' : x env' o2 with
          | bad => rw [ex'] at g; exact g.elim
          | ex c a o' => rw [ex'] at g; exact g.elim
          | ok y o3 =>
            rw [ex'] at g
            simp only [R.noex_ok, R.bind_ok] at g
            intro yv W5 H5 l5 S6 ry
            have S7 := backS (l4.trans l5) S6
            have ra5 := (l4.trans l5).r _ _ ra3
            have ha5 : H5 Dd = some (.lst vs) := ((l4.trans l5).o _ _ ra3 rfl).trans ha3
            split at g
            · rename_i hlt
              refine ⟨vs, ha5, by rw [rs.length]; exact hlt, rfl, W5, acc ++ [y], vs ++ [yv], o3, ?_, S7.grow (xs := vs) ra5, ra5, upd_same, ((le3.trans (l4.trans l5)).d.reps rs).append (Reps.one ry), by rw [hrest]; exact g⟩
              have l6 := le.trans (le3.trans (l4.trans l5))
              exact ⟨l6.r, fun p r e lo => by rw [upd_ne (fun z => by rw [z, hn] at e; cases e)]; exact l6.o p r e lo, l6.a⟩
            · exact g.elim
/-- the state behind a store in a comprehension's block: as it was ahead, at the block's end -/
theorem back_to {K : PySem.W.Frag} {CA : Str → Option Addr} {W3 W' : Wd} {H3 H' : Hp} {σ σ' : L2.St} {env env' : Env} {o o' : Obs} (S3 : SRel K CA W3 σ H3 env o) (l : W3.leE W' H3 H') (S' : SRel K CA W' σ' H' env' o') : SRel K CA W' σ H' env o' :=
  ⟨S'.h, S3.len, fun j s e => SlR.mono l.d (fun p z => ⟨l.r p _ z, l.o p _ z rfl⟩) (S3.sl j s e)⟩
theorem drop_cons {α : Type} {ds rest : List α} {d : α} {i : Nat} (hd : ds.drop i = d :: rest) : i < ds.length ∧ ds[i]? = some d ∧ ds.drop (i + 1) = rest := by
  refine ⟨?_, ?_, ?_⟩
  · apply Nat.lt_of_not_le
    intro q
    rw [List.drop_eq_nil_of_le q] at hd; cases hd
  · have := List.getElem?_drop (xs := ds) (i := i) (j := 0)
    rw [hd] at this; simpa using this.symm
  · have := List.drop_drop (i := 1) (j := i) (l := ds)
    rw [hd] at this; simpa [Nat.add_comm] using this.symm
theorem leE_grow {W W' : Wd} {H H' : Hp} {p : Addr} {o : HO} (l : W.leE W' H H') (hn : W.ρ p = none) : W.leE W' H (upd H' p o) :=
  ⟨l.r, fun q r e lo => by rw [upd_ne (fun z => by rw [z, hn] at e; cases e)]; exact l.o q r e lo, l.a⟩
/-- THE COMPREHENSION with two fors -/
theorem lc2_of {K : PySem.W.Frag} {CA : Str → Option Addr} {W0 : WX} {di di1 : Env → Obs → R (List D)} {t t1 : Env → Obs → R Bool} {x : Env → Obs → R D} {own vs1 : List Nat} {tg tg1 : Tg} {σ : L2.St} {H : Hp} {Q : V → Hp → Prop} (ht : ∀ i ∈ tg.sl, i ∈ own) (ht1 : ∀ i ∈ tg1.sl, i ∈ vs1)
    (h : LF K CA W0 (fun env o => (di env o).bind fun ds o => lc2D own vs1 tg t di1 tg1 t1 x env ds [] o) σ H Q) :
    tLc2 (LG K CA W0 (relI K CA) di) (gTg K tg) (LT K CA (fun _ _ _ _ => False) t) (LG K CA (fun _ _ _ _ => False) (relI K CA) di1) (gTg K tg1) (LT K CA (fun _ _ _ _ => False) t1) (LE K CA (fun _ _ _ _ => False) x) own vs1 σ H Q := by
  obtain ⟨W, env, obs, S, h⟩ := h
  refine LG.bnd earlyF S h fun ds o1 J W1 H1 l1 S1 wk h1 => ?_
  intro Dd hD
  have hn := S1.h.fresh hD
  let inv : Nat → Nat → Hp → Prop := fun i m H' => m = ds.length - i ∧ ∃ Wd acc vs o, W1.leE Wd H1 H' ∧ SRel K CA Wd σ H' env o ∧ Wd.ρ Dd = some .acc ∧ H' Dd = some (.lst vs) ∧ Wd.reps K vs acc ∧
    GP K CA W0 (relF K) W1 env σ H1 Q (lc2D own vs1 tg t di1 tg1 t1 x env (ds.drop i) acc o)
  refine ⟨inv, ⟨ds.length, by simp, W1.put Dd .acc, [], [], o1, leE_add hn, S1.add hD (fun u e => nomatch e) (fun u e => nomatch e), Wd.put_same, upd_same, .nil, by rw [List.drop_zero]; exact h1⟩, ?_⟩
  rintro i m H2 ⟨rfl, Wd, acc, vs, o, le, S2, ra, ha, rs, g⟩
  cases hd : ds.drop i with
  | nil =>
    rw [hd] at g
    have hlen : ds.length ≤ i := List.drop_eq_nil_iff.mp hd
    exact .inl ⟨wk.stop i Wd σ H2 env o le.s S2 hlen, g (.ref Dd) Wd H2 le S2 ⟨Dd, vs, rfl, hn, ra, ha, rs⟩⟩
  | cons d rest =>
    rw [hd] at g
    obtain ⟨hil, hdi, hrest⟩ := drop_cons hd
    obtain ⟨hgo, hy⟩ := wk.go i d Wd σ H2 env o le.s S2 hdi
    refine .inr ⟨hgo, fun H' => inv (i + 1) (ds.length - (i + 1)) H', fun H' q => ⟨ds.length - (i + 1), by omega, q⟩, fun v H3 y3 => ?_⟩
    obtain ⟨W3, le3, S3, rv⟩ := hy v H3 y3
    have ra3 : W3.ρ Dd = some .acc := le3.r _ _ ra
    have ha3 : H3 Dd = some (.lst vs) := (le3.o _ _ ra rfl).trans ha
    unfold lc2D at g
    cases es : setTg tg d (wipeE env own) with
    | none => rw [es] at g; exact g.elim
    | some env' =>
      rw [es] at g
      simp only at g
      refine tg_of (S3.wipe own) rv es fun σ' S4 sb => ?_
      have wp : L2.wipe σ' own = L2.wipe σ own := by rw [sb.wipe ht, wipe_wipe]
      refine ⟨wp, W3, env', o, S4, ?_⟩
      cases et : t env' o with
      | bad => rw [et] at g; exact g.elim
      | ex c a o' => rw [et] at g; exact g.elim
      | ok b o2 =>
        rw [et] at g
        intro b' W4 H4 l4 S5 hb
        have hb : b' = b := hb
        subst hb
        have ra4 := l4.r _ _ ra3
        have ha4 := (l4.o _ _ ra3 rfl).trans ha3
        cases b' with
        | false =>
          simp only [Bool.false_eq_true, if_false, R.noex_ok, R.bind_ok] at g ⊢
          exact ⟨rfl, W4, acc, vs, o2, le.trans (le3.trans l4), back_to S3 l4 S5, ra4, ha4, (le3.trans l4).d.reps rs, by rw [hrest]; exact g⟩
        | true =>
          simp only [if_true, R.noex_ok, R.bind_ok] at g ⊢
          refine ⟨W4, env', o2, S5, ?_⟩
          cases ei : di1 env' o2 with
          | bad => rw [ei] at g; exact g.elim
          | ex c a o' => rw [ei] at g; exact g.elim
          | ok es1 o3 =>
            rw [ei] at g
            simp only [R.noex_ok, R.bind_ok] at g
            intro J1 W5 H5 l5 S6 wk1
            have wk1 : Wlk K CA W5 J1 es1 := wk1
            have S5b := S6
            have ra5 := l5.r _ _ ra4
            have ha5 := (l5.o _ _ ra4 rfl).trans ha4
            have le5 : W1.leE W5 H1 H5 := le.trans (le3.trans (l4.trans l5))
            have n5 : W1.ρ Dd = none := hn
            -- the second loop's invariant
            let inv1 : Nat → Nat → Hp → Prop := fun j k H' => k = es1.length - j ∧ ∃ Wd2 acc vs o, W5.leS Wd2 ∧ W3.leE Wd2 H3 (fun p => if p = Dd then H3 Dd else H' p) ∧ W1.leE Wd2 H1 H' ∧ SRel K CA Wd2 σ' H' env' o ∧ Wd2.ρ Dd = some .acc ∧ H' Dd = some (.lst vs) ∧ Wd2.reps K vs acc ∧
              GP K CA W0 (relF K) W1 env σ H1 Q ((lcD vs1 tg1 t1 x env' (es1.drop j) acc o).bind fun acc o => lc2D own vs1 tg t di1 tg1 t1 x env rest acc o)
            have le35 : W3.leE W5 H3 H5 := l4.trans l5
            refine ⟨inv1, ⟨es1.length, by simp, W5, acc, vs, o3, .refl, ⟨le35.r, fun q r e lo => ?_, le35.a⟩, le5, S6, ra5, ha5, (le3.trans le35).d.reps rs, by rw [List.drop_zero]; exact g⟩, ?_⟩
            · split
              · rename_i hq; rw [hq]
              · exact le35.o q r e lo
            rintro j k H6 ⟨rfl, Wd2, acc2, vs2, o4, lS, lE3, lE1, S7, ra6, ha6, rs6, g6⟩
            cases hd1 : es1.drop j with
            | nil =>
              rw [hd1] at g6
              have hlen1 : es1.length ≤ j := List.drop_eq_nil_iff.mp hd1
              refine .inl ⟨wk1.stop j Wd2 σ' H6 env' o4 lS S7 hlen1, rfl, Wd2, acc2, vs2, o4, lE1, ?_, ra6, ha6, rs6, by rw [hrest]; exact g6⟩
              refine ⟨S7.h, S3.len, fun i s e => ?_⟩
              refine SlR.mono lE3.d (fun p z => ⟨lE3.r p _ z, ?_⟩) (S3.sl i s e)
              have := lE3.o p _ z rfl
              rw [if_neg (fun q => by rw [q, ra3] at z; cases z)] at this
              exact this
            | cons d1 rest1 =>
              rw [hd1] at g6
              obtain ⟨hil1, hdi1, hrest1⟩ := drop_cons hd1
              obtain ⟨hgo1, hy1⟩ := wk1.go j d1 Wd2 σ' H6 env' o4 lS S7 hdi1
              refine .inr ⟨hgo1, fun H' => inv1 (j + 1) (es1.length - (j + 1)) H', fun H' q => ⟨es1.length - (j + 1), by omega, q⟩, fun v1 H7 y7 => ?_⟩
              obtain ⟨W7, le7, S8, rv1⟩ := hy1 v1 H7 y7
              have ra7 : W7.ρ Dd = some .acc := le7.r _ _ ra6
              have ha7 : H7 Dd = some (.lst vs2) := (le7.o _ _ ra6 rfl).trans ha6
              have step3 : ∀ {W' : Mp.Wd} {H' : Hp}, Wd2.leE W' H6 H' → W3.leE W' H3 (fun p => if p = Dd then H3 Dd else H' p) := fun {W' H'} l => ⟨fun p r e => l.r p r (lE3.r p r e), fun q r e lo => by
                split
                · rename_i hq; rw [hq]
                · rename_i hq
                  have := lE3.o q r e lo
                  rw [if_neg hq] at this
                  exact (l.o q r (lE3.r q r e) lo).trans this, fun n p e => l.a n p (lE3.a n p e)⟩
              unfold lcD at g6
              cases es7 : setTg tg1 d1 (wipeE env' vs1) with
              | none => rw [es7] at g6; exact g6.elim
              | some env2 =>
                rw [es7] at g6
                simp only at g6
                refine tg_of (S8.wipe vs1) rv1 es7 fun σ2 S9 sb1 => ?_
                have wp1 : L2.wipe σ2 vs1 = L2.wipe σ' vs1 := by rw [sb1.wipe ht1, wipe_wipe]
                refine ⟨wp1, W7, env2, o4, S9, ?_⟩
                cases et1 : t1 env2 o4 with
                | bad => rw [et1] at g6; exact g6.elim
                | ex c a o' => rw [et1] at g6; exact g6.elim
                | ok b1 o5 =>
                  rw [et1] at g6
                  intro b2 W8 H8 l8 S10 hb1
                  have hb1 : b2 = b1 := hb1
                  subst hb1
                  have ra8 := l8.r _ _ ra7
                  have ha8 := (l8.o _ _ ra7 rfl).trans ha7
                  cases b2 with
                  | false =>
                    simp only [Bool.false_eq_true, if_false, R.noex_ok, R.bind_ok] at g6 ⊢
                    exact ⟨rfl, W8, acc2, vs2, o5, lS.trans (le7.trans l8).s, step3 (le7.trans l8), lE1.trans (le7.trans l8), back_to S8 l8 S10, ra8, ha8, (le7.trans l8).d.reps rs6, by rw [hrest1]; exact g6⟩
                  | true =>
                    simp only [if_true, R.noex_ok, R.bind_ok] at g6 ⊢
                    refine ⟨W8, env2, o5, S10, ?_⟩
                    cases ex' : x env2 o5 with
                    | bad => rw [ex'] at g6; exact g6.elim
                    | ex c a o' => rw [ex'] at g6; exact g6.elim
                    | ok y o6 =>
                      rw [ex'] at g6
                      simp only [R.noex_ok, R.bind_ok] at g6
                      intro yv W9 H9 l9 S11 ry
                      have S12 := back_to S8 (l8.trans l9) S11
                      have ra9 := (l8.trans l9).r _ _ ra7
                      have ha9 : H9 Dd = some (.lst vs2) := ((l8.trans l9).o _ _ ra7 rfl).trans ha7
                      have l10 := le7.trans (l8.trans l9)
                      split at g6
                      · rename_i hlt
                        refine ⟨vs2, ha9, by rw [rs6.length]; exact hlt, rfl, W9, acc2 ++ [y], vs2 ++ [yv], o6, lS.trans l10.s, ?_, leE_grow (lE1.trans l10) hn, S12.grow (xs := vs2) ra9, ra9, upd_same, (l10.d.reps rs6).append (Reps.one ry), by rw [hrest1]; exact g6⟩
                        have z := step3 l10
                        refine ⟨z.r, fun q r e lo => ?_, z.a⟩
                        have z2 := z.o q r e lo
                        by_cases hq : q = Dd
                        · rw [if_pos hq, hq]
                        · rw [if_neg hq] at z2 ⊢
                          rw [upd_ne hq]; exact z2
                      · exact g6.elim
end Mp

set_option Elab.async false
set_option linter.all false
set_option maxRecDepth 100000
/-! Expressions mean over data what they mean in the model. -/
namespace Mp
open PySem PySem.Spec PyProof.Rows L2

/-! ### a list of one's own lent -/
section
variable {K : PySem.W.Frag} {F F' : Hp} {A : List Addr}
mutual
theorem Rep.noL (h : ∀ p o, F p = some o → (∀ xs, o ≠ .lst xs) → (∀ ks, o ≠ .dK ks) → F' p = some o) : ∀ {v : V} {d : D}, Rep K F A v d → noL d = true → Rep K F' A v d
  | _, _, .non, _ => .non
  | _, _, .bl b, _ => .bl b
  | _, _, .int i, _ => .int i
  | _, _, .str x, _ => .str x
  | _, _, .ty n, _ => .ty n
  | _, _, .tup q r, e => by
    refine .tup ?_ (Reps.noL h r (by simpa [Mp.noL] using e))
    rcases q with (q | ⟨o, q⟩) | q
    · exact .inl (.inl (h _ _ q (by simp) (by simp)))
    · exact .inl (.inr ⟨o, h _ _ q (by simp) (by simp)⟩)
    · exact .inr q
  | _, _, .lst _ _, e => by simp [Mp.noL] at e
  | _, _, .loc _, e => by simp [Mp.noL] at e
  | _, _, .dic _ _ _, e => by simp [Mp.noL] at e
  | _, _, .obj q, _ => .obj q
theorem Reps.noL (h : ∀ p o, F p = some o → (∀ xs, o ≠ .lst xs) → (∀ ks, o ≠ .dK ks) → F' p = some o) : ∀ {vs : List V} {ds : List D}, Reps K F A vs ds → noLs ds = true → Reps K F' A vs ds
  | _, _, .nil, _ => .nil
  | _, _, .cons a b, e => by
    simp only [Mp.noLs, Bool.and_eq_true] at e
    exact .cons (Rep.noL h a e.1) (Reps.noL h b e.2)
end
end

section
variable {K : PySem.W.Frag} {CA : Str → Option Addr} {W0 : WX} {α β : Type} {rel : Rl α β}
theorem bor_of {f : Env → Obs → R α} {i : Nat} {ok : α → Bool} {σ : L2.St} {H : Hp} {Q : β → Hp → Prop}
    (hrel : ∀ (W W1 W' W2 : Wd) (H' : Hp) (v : β) (d : α), rel W1 W' H' v d → ok d = true → (∀ p o, W'.F p = some o → (∀ xs, o ≠ .lst xs) → (∀ ks, o ≠ .dK ks) → W2.F p = some o) → W2.A = W'.A → rel W W2 H' v d)
    (h : LG K CA W0 rel (fun env o => match env[i]? with
      | some (.ol ds) => (f (env.set i (.v (.lst ds))) o).noex.bind fun d o => if ok d && o.all noLO then .ok d o else .bad
      | _ => .bad) σ H Q) : LG K CA W0 rel f σ H Q := by
  obtain ⟨W, env, obs, S, h⟩ := h
  cases he : env[i]? with
  | none => simp only [he] at h; exact h.elim
  | some s =>
    cases s with
    | un => simp only [he] at h; exact h.elim
    | v d => simp only [he] at h; exact h.elim
    | od d => simp only [he] at h; exact h.elim
    | ol ds =>
      simp only [he] at h
      obtain ⟨p, vs, hσ, hr, hp, rs⟩ := S.getL he
      have hi : i < env.length := (List.getElem?_eq_some_iff.mp he).1
      -- the slot forgotten, the list frozen, the slot set again
      have S0 : SRel K CA W σ H (env.set i .un) obs := S.weak (by simp [S.len]) fun j s e => by
        by_cases hj : i = j
        · subst hj; rw [List.getElem?_set_self hi] at e; exact .inl (Option.some.inj e).symm
        · rw [List.getElem?_set_ne hj] at e; exact .inr ⟨e, rfl⟩
      have S1 : SRel K CA (W.put p (.fro (.lst vs))) σ H (env.set i .un) obs := by
        refine S0.turn hr rfl (fun j s e z => ?_) (fun u e => by injection e with e; rw [← e]; exact hp) (fun u e => nomatch e)
        have hj : i = j := by injection e
        subst hj
        rw [List.getElem?_set_self hi] at z
        exact .inr (Option.some.inj z).symm
      have ls := leS_turn (r := .fro (.lst vs)) hr rfl
      have S2 : SRel K CA (W.put p (.fro (.lst vs))) σ H (env.set i (.v (.lst ds))) obs := by
        have := S1.set (i := i) (v := .ref p) (s := .v (.lst ds)) ⟨_, rfl, .lst (Wd.F_of.mpr Wd.put_same) (ls.d.reps rs)⟩
        rw [List.set_set] at this
        have e : σ.set i (some (.ref p)) = σ := by
          apply List.ext_getElem?
          intro j
          by_cases hj : i = j
          · subst hj; rw [List.getElem?_set_self (by rw [S.len]; exact hi), hσ]
          · rw [List.getElem?_set_ne hj]
        rw [e] at this; exact this
      refine ⟨_, _, _, S2, ?_⟩
      cases hf : f (env.set i (.v (.lst ds))) obs with
      | bad => rw [hf] at h; exact h.elim
      | ex c a o => rw [hf] at h; exact h.elim
      | ok d o =>
        rw [hf] at h
        simp only [R.noex_ok, R.bind_ok] at h
        split at h
        · rename_i hk
          rw [Bool.and_eq_true] at hk
          intro v W' H' le S' rv
          have hp' : W'.ρ p = some (.fro (.lst vs)) := le.r p _ Wd.put_same
          have hF : ∀ q u, W'.F q = some u → (∀ xs, u ≠ .lst xs) → (∀ ks, u ≠ .dK ks) → (W'.put p (.own i)).F q = some u := fun q u e n _ => by
            have hq : q ≠ p := fun z => by
              subst z
              rw [Wd.F_of.mpr hp'] at e; cases e; exact n vs rfl
            rw [Wd.F_of] at e ⊢
            rw [Wd.put_ne hq]; exact e
          have le2 : W.leE (W'.put p (.own i)) H H' := by
            refine ⟨fun q r e => ?_, fun q r e l => ?_, fun n q e => le.a n q e⟩
            · by_cases hq : q = p
              · subst hq; rw [hr] at e; cases e; exact Wd.put_same
              · rw [Wd.put_ne hq]; exact le.r q r (by rw [Wd.put_ne hq]; exact e)
            · by_cases hq : q = p
              · subst hq; rw [S'.h.fro q _ hp']; exact hp.symm
              · exact le.o q r (by rw [Wd.put_ne hq]; exact e) l
          have lp : ∀ q r, W'.ρ q = some r → q ≠ p → (W'.put p (.own i)).ρ q = some r := fun q r e hq => by rw [Wd.put_ne hq]; exact e
          refine h v (W'.put p (.own i)) H' le2 ⟨⟨fun q u e => ?_, fun q u e => ?_, fun q u e => ?_, S'.h.len, fun n ob e => ?_⟩, S.len, fun j s e => ?_⟩ (hrel W _ W' _ H' v d rv hk.1 hF rfl)
          · by_cases hq : q = p
            · subst hq; rw [Wd.put_same] at e; cases e
            · rw [Wd.put_ne hq] at e; exact S'.h.fro q u e
          · by_cases hq : q = p
            · subst hq; rw [Wd.put_same] at e; cases e
            · rw [Wd.put_ne hq] at e; exact S'.h.keep q u e
          · by_cases hq : q = p
            · subst hq; exact S'.h.live _ _ hp'
            · rw [Wd.put_ne hq] at e; exact S'.h.live q u e
          · obtain ⟨q, a1, a2, a3⟩ := S'.h.obs n ob e
            have hob : noLO ob = true := by
              have := List.all_eq_true.mp hk.2 ob (List.mem_of_getElem? e)
              exact this
            refine ⟨q, a1, lp q _ a2 (fun z => by rw [z, hp'] at a2; cases a2), ?_⟩
            cases ob with
            | ins c fs =>
              obtain ⟨C, dx, us, e1, e2, e3, e4, e5, e6⟩ := a3
              exact ⟨C, dx, us, e1, e2, lp dx _ e3 (fun z => by rw [z, hp'] at e3; cases e3), e4, e5, Reps.noL hF e6 hob⟩
            | ls fs =>
              obtain ⟨us, e2, e6⟩ := a3
              exact ⟨us, e2, Reps.noL hF e6 hob⟩
            | dk ks =>
              obtain ⟨us, e2, e3, e6⟩ := a3
              exact ⟨us, e2, e3, Reps.noL hF e6 hob⟩
          · exact SlR.mono le2.d (fun q z => ⟨le2.r q _ z, le2.o q _ z rfl⟩) (S.sl j s e)
        · exact h.elim
end

/-! ### built-in functions by their names -/
section
variable {X : Cx} {CA : Str → Option Addr}
theorem biB_ok (hc : X.calm = true) : ∀ f ∈ biB, ∃ r, CallR X (.builtin f) r ∧ Op1 X.K CA r (biD f) := by
  intro f hf
  simp only [biB, List.mem_cons, List.not_mem_nil, or_false] at hf
  rcases hf with rfl | rfl | rfl | rfl | rfl | rfl | rfl | rfl
  · exact len_ok
  · exact abs_ok
  · exact sum_ok hc
  · exact all_ok hc
  · exact any_ok hc
  · exact max_ok hc
  · exact min_ok hc
  · exact sorted_ok
theorem biT_ok : ∀ f ∈ biT, ∃ r, CallR X (.type f) r ∧ Op1 X.K CA r (biD f) := by
  intro f hf
  simp only [biT, List.mem_cons, List.not_mem_nil, or_false] at hf
  rcases hf with rfl | rfl | rfl | rfl
  · exact int_ok
  · exact str_ok
  · exact tuple_ok
  · exact list_ok
theorem boot_B : ∀ f ∈ biB, bootBuiltins (Str.ofString f) = some (.builtin f) ∧ Str.ofString f ≠ "__name__" ∧ ((Str.ofString f) == ("__debug__" : Str)) = false := by decide +kernel
theorem boot_T : ∀ f ∈ biT, bootBuiltins (Str.ofString f) = some (.type f) ∧ Str.ofString f ≠ "__name__" ∧ ((Str.ofString f) == ("__debug__" : Str)) = false := by decide +kernel
theorem boot_isi : ∀ f ∈ isiTs, bootBuiltins (Str.ofString f) = some (.type f) ∧ Str.ofString f ≠ "__name__" ∧ ((Str.ofString f) == ("__debug__" : Str)) = false := by decide +kernel
theorem boot_set : bootBuiltins ("set" : Str) = some (.type "set") := by decide +kernel
theorem boot_dic : bootBuiltins ("dict" : Str) = some (.type "dict") := by decide +kernel
theorem boot_isin : bootBuiltins ("isinstance" : Str) = some (.builtin "isinstance") := by decide +kernel
end
theorem pt_ifE {X : Cx} {c a b : Expr} {pos : Pos} {tc ta tb : TT} (hc : PT X c tc) (ha : PT X a ta) (hb : PT X b tb) : PT X (.IfExp c a b pos) (fun σ H Q => tc σ H fun k H1 => if k = true then ta σ H1 Q else tb σ H1 Q) := by
  refine ⟨fun pins s σ H Q I h => ?_⟩
  show wpAny _ _ (do if ← isTrue c X.env (eval c X.env) then isTrue a X.env (eval a X.env) else isTrue b X.env (eval b X.env)) _ _ s
  refine wpAny_bind (thn (hc.run pins s σ H _ I h) fun d s1 ⟨H1, I1, q1⟩ => ?_)
  cases d with
  | true => exact ha.run pins s1 σ H1 Q I1 q1
  | false => exact hb.run pins s1 σ H1 Q I1 q1
/-- a test that is an expression's truth -/
def isPlainT : Expr → Bool
  | .UnaryOp .Not _ _ => false | .BoolOp _ _ _ => false | .IfExp _ _ _ _ => false | .Compare _ _ _ _ => false | _ => true
theorem plainT_ok {e : Expr} {env : PySem.Env} (h : isPlainT e = true) : ∀ whole, isTrue e env whole = (do let v ← whole; standAt e.pos; holding [v] (truthy v)) := fun whole => by
  cases e with
  | UnaryOp op a pos => cases op <;> first | rfl | (simp [isPlainT] at h)
  | BoolOp _ _ _ => simp [isPlainT] at h
  | IfExp _ _ _ _ => simp [isPlainT] at h
  | Compare _ _ _ _ => simp [isPlainT] at h
  | _ => rfl
theorem chk_star {fs bs N : List Str} {sc : Scope} : ∀ {es : Es} {es' : List Expr}, chkEs fs bs N sc es es' = true → ∀ e ∈ es', isStar e = false
  | .nil, [], _ => fun _ h => nomatch h
  | .nil, _ :: _, h => by simp [chkEs] at h
  | .cons _ _, [], h => by simp [chkEs] at h
  | .cons e r, e' :: r', h => fun x hx => by
    simp only [chkEs, Bool.and_eq_true, Bool.not_eq_true'] at h
    rcases List.mem_cons.mp hx with rfl | hx
    · exact h.1.2
    · exact chk_star h.2 x hx
theorem plain_of {env : PySem.Env} {pos : Pos} : ∀ {es : List Expr}, (∀ e ∈ es, isStar e = false) → (backTo pos (starEach es env)).any (·.1) = false
  | [], _ => rfl
  | e :: es, h => by
    rw [star_ok (h e List.mem_cons_self)]
    show (false || (backTo pos (starEach es env)).any (·.1)) = false
    rw [Bool.false_or]
    exact plain_of fun x hx => h x (List.mem_cons_of_mem _ hx)
end Mp

set_option Elab.async false
set_option linter.all false
set_option maxRecDepth 100000
set_option maxHeartbeats 4000000
/-! THE THEOREM for expressions. -/
namespace Mp
open PySem PySem.Spec PyProof.Rows L2


/-- data made once is data -/
theorem lf_of {K : PySem.W.Frag} {CA : Str → Option Addr} {W0 : WX} {f : Env → Obs → R (List D)} {σ : L2.St} {H : Hp} {Q : V → Hp → Prop} (h : LE K CA W0 (fun env o => (f env o).map .lst) σ H Q) : LF K CA W0 f σ H Q := by
  obtain ⟨W, env, obs, S, g⟩ := h
  refine ⟨W, env, obs, S, ?_⟩
  cases e : f env obs with
  | bad => simp only [e] at g; exact g.elim
  | ex c a o => simp only [e] at g; exact g
  | ok ds o =>
    simp only [e] at g
    rintro v W' H' l S' ⟨p, vs, rfl, n, ra, hp, rs⟩
    have ls := leS_turn (r := .fro (.lst vs)) ra rfl
    refine g (.ref p) (W'.put p (.fro (.lst vs))) H' ⟨fun q r e => ?_, l.o, l.a⟩ (S'.turn ra rfl (fun i s z => nomatch z) (fun u z => by injection z with z; rw [← z]; exact hp) (fun u z => nomatch z)) (.lst (Wd.F_of.mpr Wd.put_same) (ls.d.reps rs))
    have hq : q ≠ p := fun z => by rw [z, n] at e; cases e
    rw [Wd.put_ne hq]; exact l.r q r e
theorem nm1_own {sc : Scope} {N : List Str} {own : List Nat} {i : Nat} {e : Expr} (h : chkNm1 sc N own i e = true) : i ∈ own := by
  cases e with
  | Name x pos =>
    simp only [chkNm1, Bool.and_eq_true] at h
    simpa using h.2
  | _ => simp [chkNm1] at h
theorem nm2_own {sc : Scope} {N : List Str} {own : List Nat} : ∀ {ts : List Nat} {es : List Expr}, chkNm2 sc N own ts es = true → ∀ i ∈ ts, i ∈ own
  | [], _, _ => by simp
  | _ :: _, [], h => by simp [chkNm2] at h
  | t :: ts, e :: es, h => by
    simp only [chkNm2, Bool.and_eq_true] at h
    intro i hi
    rcases List.mem_cons.mp hi with rfl | hi
    · exact nm1_own h.1
    · exact nm2_own h.2 i hi
theorem t1_own {sc : Scope} {N : List Str} {own : List Nat} {t : Nat ⊕ List Nat} {e : Expr} (h : chkT1 sc N own t e = true) : ∀ i ∈ slT1 t, i ∈ own := by
  cases t with
  | inl i =>
    intro j hj
    simp only [slT1, List.mem_singleton] at hj
    subst hj; exact nm1_own (by simpa only [chkT1] using h)
  | inr ts =>
    cases e with
    | Tuple es k pos => exact nm2_own (ts := ts) (by simpa only [chkT1] using h)
    | _ => simp [chkT1] at h
theorem tt_own {sc : Scope} {N : List Str} {own : List Nat} : ∀ {ts : List (Nat ⊕ List Nat)} {es : List Expr}, chkTt sc N own ts es = true → ∀ i ∈ slTt ts, i ∈ own
  | [], _, _ => by simp [slTt]
  | _ :: _, [], h => by simp [chkTt] at h
  | t :: ts, e :: es, h => by
    simp only [chkTt, Bool.and_eq_true] at h
    intro i hi
    rcases List.mem_append.mp hi with hi | hi
    · exact t1_own h.1 i hi
    · exact tt_own h.2 i hi
theorem chkTg_own {sc : Scope} {N : List Str} {own : List Nat} {tg : Tg} {e : Expr} (h : chkTg sc N own tg e = true) : ∀ i ∈ tg.sl, i ∈ own := by
  cases tg with
  | nm i =>
    intro j hj
    simp only [Tg.sl, List.mem_singleton] at hj
    subst hj; exact nm1_own (by simpa only [chkTg] using h)
  | tp ts =>
    cases e with
    | Tuple es k pos => exact nm2_own (ts := ts) (by simpa only [chkTg] using h)
    | _ => simp [chkTg] at h
  | tt ts =>
    cases e with
    | Tuple es k pos => exact tt_own (ts := ts) (by simpa only [chkTg] using h)
    | _ => simp [chkTg] at h
theorem chkI_set {fs bs N : List Str} {sc : Scope} {it : It} {tg e : Expr} (h : chkI fs bs N sc it tg e = true) : isSet e = false := by
  cases it with
  | sq a => simp only [chkI, Bool.and_eq_true, Bool.not_eq_true'] at h; exact h.2
  | r1 a => cases e <;> first | rfl | (simp [chkI] at h)
  | r2 a b => cases e <;> first | rfl | (simp [chkI] at h)
  | r3 a b c => cases e <;> first | rfl | (simp [chkI] at h)
  | en a => cases e <;> first | rfl | (cases tg <;> simp [chkI] at h)
theorem R.bind_assoc {α β γ : Type} (x : R α) (f : α → Obs → R β) (g : β → Obs → R γ) : (x.bind f).bind g = x.bind fun a o => (f a o).bind g := by
  cases x <;> rfl
/-- as LG.bnd, the run's value told -/
theorem LG.bnd' {K : PySem.W.Frag} {CA : Str → Option Addr} {W0 : WX} {W : Wd} {H : Hp} {obs : Obs} {env : Env} {σ : L2.St} {α β γ δ : Type} {rel : Rl α β} {rel2 : Rl γ δ} {Q : δ → Hp → Prop} {T : β → Hp → Prop} {fa : Env → Obs → R α} {k : α → Obs → R γ} (er : rel2.Early) (S : SRel K CA W σ H env obs) (h : GP K CA W0 rel2 W env σ H Q ((fa env obs).bind k))
    (kk : ∀ a o1 v W1 H1, fa env obs = .ok a o1 → W.leE W1 H H1 → SRel K CA W1 σ H1 env o1 → rel W W1 H1 v a → GP K CA W0 rel2 W1 env σ H1 Q (k a o1) → T v H1) : LG K CA W0 rel fa σ H T := by
  refine ⟨W, env, obs, S, ?_⟩
  cases e : fa env obs with
  | ok a o => exact fun v W' H' l S' r => kk a o v W' H' e l S' r (GP.mono er l (by rw [e] at h; exact h))
  | ex c a o => rw [e] at h; exact h
  | bad => rw [e] at h; exact h
theorem one_of {X : Cx} {CA : Str → Option Addr} {W0 : WX} {f : Env → Obs → R D} {σ : L2.St} {H : Hp} {T : List V → Hp → Prop}
    (h : LE X.K CA W0 f σ H fun v H1 => T [v] H1) : tCons (LE X.K CA W0 f) tNil σ H T := h

section
variable {CA : Str → Option Addr} {fs bs N : List Str} {G : Str → Option D} {Φ : Str → List D → Obs → R D} {n : Nat}

theorem gt_of_opt {K : PySem.W.Frag} {W0 : WX} {W : Wd} {σ : L2.St} {H : Hp} {env : Env} {obs : Obs} {Q : Bool → Hp → Prop} {o : Option Bool} (S : SRel K CA W σ H env obs) (h : GP K CA W0 relT W env σ H Q (R.opt obs o)) : ∃ b, o = some b ∧ Q b H := by
  cases o with
  | none => exact h.elim
  | some b => exact ⟨b, rfl, h b W H .refl S rfl⟩

theorem lsO_some {o : Obs} {x : D} {ds : List D} (h : lsO o x = some ds) : ∃ n, x = .obj n ∧ o[n]? = some (.ls ds) := by
  cases x with
  | obj n =>
    refine ⟨n, rfl, ?_⟩
    simp only [lsO] at h
    split at h
    · cases h; assumption
    · cases h
  | _ => cases h
theorem insO_some {o : Obs} {c : Str} {x : D} {fs : List (Str × D)} (h : insO o c x = some fs) : ∃ n, x = .obj n ∧ o[n]? = some (.ins c fs) := by
  cases x with
  | obj n =>
    refine ⟨n, rfl, ?_⟩
    simp only [insO] at h
    split at h
    · split at h
      · rename_i e1 e2
        subst e2
        cases h; exact e1
      · cases h
    · cases h
  | _ => cases h
theorem fld_rel {K : PySem.W.Frag} {W : Wd} {x : Str} : ∀ {vs : List (Str × V)} {fs : List (Str × D)}, vs.map (·.1) = fs.map (·.1) → W.reps K (vs.map (·.2)) (fs.map (·.2)) →
    (∀ d, fs.lookup x = some d → ∃ v, vs.lookup x = some v ∧ W.rep K v d) ∧ (fs.lookup x = none → vs.lookup x = none)
  | [], [], _, _ => ⟨fun _ h => (by cases h), fun _ => rfl⟩
  | [], _ :: _, h, _ => by cases h
  | _ :: _, [], h, _ => by cases h
  | (y, v) :: vs, (z, d) :: fs, h, r => by
    simp only [List.map_cons, List.cons.injEq] at h
    obtain ⟨rfl, h⟩ := h
    have r : W.reps K (v :: vs.map (·.2)) (d :: fs.map (·.2)) := r
    cases r with
    | cons r1 r2 =>
      obtain ⟨ih1, ih2⟩ := fld_rel (x := x) h r2
      rw [List.lookup_cons, List.lookup_cons]
      cases e : (x == y) with
      | true => exact ⟨fun d' hd => (by cases hd; exact ⟨v, rfl, r1⟩), fun h => (by cases h)⟩
      | false => exact ⟨ih1, ih2⟩
theorem put_rel {K : PySem.W.Frag} {W : Wd} {x : Str} {v : V} {d : D} (hv : W.rep K v d) : ∀ {vs : List (Str × V)} {fs : List (Str × D)}, vs.map (·.1) = fs.map (·.1) → W.reps K (vs.map (·.2)) (fs.map (·.2)) →
    (L2.putF x v vs).map (·.1) = (putD x d fs).map (·.1) ∧ W.reps K ((L2.putF x v vs).map (·.2)) ((putD x d fs).map (·.2))
  | [], [], _, _ => ⟨rfl, .cons hv .nil⟩
  | [], _ :: _, h, _ => by cases h
  | _ :: _, [], h, _ => by cases h
  | (y, u) :: vs, (z, e) :: fs, h, r => by
    simp only [List.map_cons, List.cons.injEq] at h
    obtain ⟨rfl, h⟩ := h
    have r : W.reps K (u :: vs.map (·.2)) (e :: fs.map (·.2)) := r
    cases r with
    | cons r1 r2 =>
      by_cases hy : y = x
      · have e1 : L2.putF x v ((y, u) :: vs) = (y, v) :: vs := if_pos hy
        have e2 : putD x d ((y, e) :: fs) = (y, d) :: fs := if_pos hy
        rw [e1, e2]
        exact ⟨by simp only [List.map_cons, h], .cons hv r2⟩
      · have e1 : L2.putF x v ((y, u) :: vs) = (y, u) :: L2.putF x v vs := if_neg hy
        have e2 : putD x d ((y, e) :: fs) = (y, e) :: putD x d fs := if_neg hy
        obtain ⟨ih1, ih2⟩ := put_rel hv h r2
        rw [e1, e2]
        exact ⟨by simp only [List.map_cons, ih1], .cons r1 ih2⟩
/-- a new instance as its maker sees it -/
theorem make_of {K : PySem.W.Frag} {W0 : WX} {W : Wd} {σ : L2.St} {H : Hp} {env : Env} {obs : Obs} {Q : V → Hp → Prop} {g : List D → Obs → R D} {c : Str} {C z dz : Addr} {ds : List D} {vs : List V} (S : SRel K CA W σ H env obs) (r : W.reps K vs ds) (hC : CA c = some C)
    (hz : H z = none) (hd : H dz = none) (ne : dz ≠ z) (h : GP K CA W0 (relE K) W env σ H Q ((g (.obj obs.length :: ds) (obs ++ [.ins c []])).bind fun r o2 => match r with
      | .non => .ok (.obj obs.length) o2
      | _ => .bad)) : spC K CA g (.ref z :: vs) (upd (upd H dz (.own z)) z (.ins C dz [])) (fun v H2 => v = .non ∧ Q (.ref z) H2) (WE W0 σ) := by
  have S1 : SRel K CA (W.put dz (.dx obs.length)) σ (upd H dz (.own z)) env obs := S.add hd (fun u e => nomatch e) (fun u e => nomatch e)
  have l1 : W.leE (W.put dz (.dx obs.length)) H (upd H dz (.own z)) := leE_add (S.h.fresh hd)
  have hz1 : upd H dz (.own z) z = none := by rw [upd_ne ne.symm]; exact hz
  obtain ⟨W2, l2, S2, hA⟩ := S1.onew (o := .ins C dz []) (ob := .ins c []) hz1 fun W' _ keep _ => ⟨C, dz, [], hC, upd_same, keep dz _ Wd.put_same, by rw [upd_ne ne, upd_same], rfl, .nil⟩
  have l := l1.trans l2
  refine call_of S2 (.cons (.obj hA) (l.d.reps r)) ?_
  cases e : g (.obj obs.length :: ds) (obs ++ [.ins c []]) with
  | ok d o2 =>
    rw [e] at h
    cases d with
    | non => exact fun v W' H' l' S' rv => ⟨rv.to_non, (show GP K CA W0 (relE K) W env σ H Q (.ok (.obj obs.length) o2) from h) _ W' H' (l.trans l') S' (.obj (l'.a _ _ hA))⟩
    | _ => exact h.elim
  | ex cc a o2 => rw [e] at h; exact fun cls dd W' H' l' S' x => h cls dd W' H' (l.trans l') S' x
  | bad => rw [e] at h; exact h.elim
/-- a new list that many may hold -/
theorem GP.onew {K : PySem.W.Frag} {W0 : WX} {W : Wd} {σ : L2.St} {H : Hp} {env : Env} {obs : Obs} {Q : V → Hp → Prop} {ds : List D} {vs : List V} (S : SRel K CA W σ H env obs) (q : GP K CA W0 (relE K) W env σ H Q (.ok (.obj obs.length) (obs ++ [.ls ds]))) (r : W.reps K vs ds) :
    ∀ p, H p = none → Q (.ref p) (upd H p (.lst vs)) := fun p hp => by
  obtain ⟨W', l, S', hA⟩ := S.onew (o := .lst vs) (ob := .ls ds) hp fun W' d _ _ => ⟨vs, upd_same, d.reps r⟩
  exact q _ W' _ l S' (.obj hA)
mutual
theorem soundE : ∀ (m : E) {X : Cx} {sc : Scope} {W0 : WX} {e : Expr}, Ctx CA fs bs N G Φ n sc X → Takes X W0 → chkE fs bs N sc m e = true → PE X e (LE X.K CA W0 (denE Φ G m))
  | .lit d, X, sc, W0, e, c, tk, h => by
    have fin : ∀ {v : V}, (∀ W : Wd, W.rep X.K v d) → ∀ σ H Q, LE X.K CA W0 (denE Φ G (.lit d)) σ H Q → Q v H := fun {v} r σ H Q ⟨W, env, obs, S, h⟩ => (show GP X.K CA W0 (relE X.K) W env σ H Q (.ok d obs) from h) v W H .refl S (r W)
    cases e with
    | Constant k j pos =>
      cases d with
      | non => cases k with
        | none => exact PE.weak pe_non (fin fun _ => .non)
        | _ => simp [chkE] at h
      | bl b => cases k with
        | bool b' =>
          have : b = b' := by simpa [chkE] using h
          subst this
          exact PE.weak pe_bl (fin fun _ => .bl _)
        | _ => simp [chkE] at h
      | int b => cases k with
        | int b' =>
          have : b = b' := by simpa [chkE] using h
          subst this
          exact PE.weak pe_int (fin fun _ => .int _)
        | _ => simp [chkE] at h
      | str b => cases k with
        | str b' =>
          have : b = b' := by simpa [chkE] using h
          subst this
          exact PE.weak pe_str (fin fun _ => .str _)
        | _ => simp [chkE] at h
      | _ => simp [chkE] at h
    | _ => cases d <;> simp [chkE] at h
  | .var i, X, sc, W0, e, c, tk, h => by
    cases e with
    | Name x pos =>
      simp only [chkE, Bool.and_eq_true, decide_eq_true_eq, Bool.not_eq_true'] at h
      obtain ⟨⟨⟨h1, h2⟩, h3⟩, h4⟩ := h
      refine PE.weak (pe_var (i := i) (by rw [c.hN]; exact h1) (by rw [c.hsc]; exact visB_ok h2) h3 h4) ?_
      rintro σ H Q ⟨W, env, obs, S, g⟩
      obtain ⟨d, e, q⟩ := GP.opt g
      unfold getD' at e
      cases he : env[i]? with
      | none => rw [he] at e; cases e
      | some s =>
        rw [he] at e
        cases s with
        | v d' =>
          cases e
          obtain ⟨v, a, b⟩ := S.get he
          exact ⟨v, a, q v W H .refl S b⟩
        | _ => cases e
    | _ => simp [chkE] at h
  | .glob y, X, sc, W0, e, c, tk, h => by
    cases e with
    | Name x pos =>
      simp only [chkE, Bool.and_eq_true, Bool.not_eq_true', beq_iff_eq] at h
      obtain ⟨⟨h1, h2⟩, h3⟩ := h
      subst h1
      refine ⟨fun pins s σ H Q I ⟨W, env, obs, S, g⟩ => ?_⟩
      obtain ⟨d, e, q⟩ := GP.opt g
      obtain ⟨u, v, hm, rv, rd⟩ := c.mo.gl y d e
      exact (pe_glob (glB_ok c.hsc h2) hm rv h3).run pins s σ H Q I (q v W H .refl S (Rep.mono (fun _ _ z => by cases z) (fun n p z => by simp at z) rd))
    | _ => simp [chkE] at h
  | .bin op a b, X, sc, W0, e, c, tk, h => by
    cases e with
    | BinOp a' op' b' pos =>
      simp only [chkE, Bool.and_eq_true, decide_eq_true_eq] at h
      obtain ⟨⟨rfl, h1⟩, h2⟩ := h
      obtain ⟨r, hr, hop⟩ := bin_ok (X := X) (CA := CA) op
      refine PE.weak (pe_op hr (soundE a c tk h1) (soundE b c tk h2)) ?_
      rintro σ H Q ⟨W, env, obs, S, g⟩
      refine LG.bnd earlyE S g fun x o1 v W1 H1 l1 S1 r1 g1 => ?_
      refine LG.bnd earlyE S1 g1 fun y o2 u W2 H2 l2 S2 r2 g2 => ?_
      obtain ⟨d, e, q⟩ := GP.opt g2
      exact hop W2 σ H2 env o2 v u x y d Q S2 (l2.d.rep r1) r2 e q
    | _ => simp [chkE] at h
  | .cmp op a b, X, sc, W0, e, c, tk, h => by
    cases e with
    | Compare a' ops bs' pos =>
      unfold chkE at h
      split at h
      · simp only [Bool.and_eq_true, decide_eq_true_eq, Bool.not_eq_true'] at h
        obtain ⟨⟨⟨rfl, h1⟩, h2⟩, h3⟩ := h
        obtain ⟨r, hr, hop⟩ := cmp_ok (X := X) (CA := CA) (by have := c.room.un; omega) op
        refine PE.weak (pe_cmpR hr (soundE a c tk h1) (soundE b c tk h2) (behind_ok h3)) ?_
        rintro σ H Q ⟨W, env, obs, S, g⟩
        refine LG.bnd earlyE S g fun x o1 v W1 H1 l1 S1 r1 g1 => ?_
        refine LG.bnd earlyE S1 g1 fun y o2 u W2 H2 l2 S2 r2 g2 => ?_
        obtain ⟨d, e, q⟩ := GP.opt g2
        rw [Option.map_eq_some_iff] at e
        obtain ⟨k, e, rfl⟩ := e
        exact hop W2 σ H2 env o2 v u x y k Q S2 (l2.d.rep r1) r2 e (q _ W2 H2 .refl S2 (.bl k))
      · cases h
    | _ => simp [chkE] at h
  | .chn o1 o2 a b d, X, sc, W0, e, c, tk, h => by
    cases e with
    | Compare a' ops bs' pos =>
      unfold chkE at h
      split at h
      · simp only [Bool.and_eq_true, decide_eq_true_eq, Bool.not_eq_true'] at h
        obtain ⟨⟨⟨⟨⟨rfl, rfl⟩, h1⟩, h2⟩, h3⟩, h4⟩ := h
        obtain ⟨r, hr, hop⟩ := cmp_ok (X := X) (CA := CA) (by have := c.room.un; omega) o1
        obtain ⟨r', hr', hop'⟩ := cmp_ok (X := X) (CA := CA) (by have := c.room.un; omega) o2
        refine PE.weak (pe_chain hr hr' (soundE a c tk h1) (soundE b c tk h2) (soundE d c tk h3) (by unfold lastMarks; exact behind_ok h4)) ?_
        rintro σ H Q ⟨W, env, obs, S, g⟩
        refine LG.bnd earlyE S g fun x oo1 v W1 H1 l1 S1 r1 g1 => ?_
        refine LG.bnd earlyE S1 g1 fun y oo2 u W2 H2 l2 S2 r2 g2 => ?_
        cases hc : cmpD o1 x y with
        | none => rw [hc] at g2; exact g2.elim
        | some k =>
          rw [hc] at g2
          refine hop W2 σ H2 env oo2 v u x y k _ S2 (l2.d.rep r1) r2 hc ⟨k, rfl, ?_⟩
          cases k with
          | false => exact g2 _ W2 H2 .refl S2 (.bl false)
          | true =>
            refine LG.bnd earlyE S2 g2 fun z oo3 w W3 H3 l3 S3 r3 g3 => ?_
            obtain ⟨d, e, q⟩ := GP.opt g3
            rw [Option.map_eq_some_iff] at e
            obtain ⟨k, e, rfl⟩ := e
            exact hop' W3 σ H3 env oo3 u w y z k Q S3 (l3.d.rep r2) r3 e (q _ W3 H3 .refl S3 (.bl k))
      · cases h
    | _ => simp [chkE] at h
  | .not a, X, sc, W0, e, c, tk, h => by
    cases e with
    | UnaryOp op a' pos =>
      cases op with
      | Not =>
        refine PE.weak (pe_not (soundE a c tk (by simpa [chkE] using h))) ?_
        rintro σ H Q ⟨W, env, obs, S, g⟩
        refine LG.bnd earlyE S g fun x o1 v W1 H1 l1 S1 r1 g1 => ?_
        cases x with
        | bl b => cases r1; exact ⟨b, rfl, g1 _ W1 H1 .refl S1 (.bl _)⟩
        | _ => exact g1.elim
      | _ => simp [chkE] at h
    | _ => simp [chkE] at h
  | .neg a, X, sc, W0, e, c, tk, h => by
    cases e with
    | UnaryOp op a' pos =>
      cases op with
      | USub =>
        refine PE.weak (pe_un un_neg (soundE a c tk (by simpa [chkE] using h))) ?_
        rintro σ H Q ⟨W, env, obs, S, g⟩
        refine LG.bnd earlyE S g fun x o1 v W1 H1 l1 S1 r1 g1 => ?_
        cases x with
        | int b => cases r1; exact ⟨b, rfl, g1 _ W1 H1 .refl S1 (.int _)⟩
        | _ => exact g1.elim
      | _ => simp [chkE] at h
    | _ => simp [chkE] at h
  | .con es, X, sc, W0, e, c, tk, h => by
    cases e with
    | BoolOp op es' pos =>
      cases op with
      | And => exact soundCon es c tk (by simpa [chkE] using h)
      | _ => simp [chkE] at h
    | _ => simp [chkE] at h
  | .dis es, X, sc, W0, e, c, tk, h => by
    cases e with
    | BoolOp op es' pos =>
      cases op with
      | Or => exact soundDis es c tk (by simpa [chkE] using h)
      | _ => simp [chkE] at h
    | _ => simp [chkE] at h
  | .ife k a b, X, sc, W0, e, c, tk, h => by
    cases e with
    | IfExp k' a' b' pos =>
      simp only [chkE, Bool.and_eq_true] at h
      obtain ⟨⟨h1, h2⟩, h3⟩ := h
      refine PE.weak (pe_ifExp (soundT k c tk h1) (soundE a c tk h2) (soundE b c tk h3)) ?_
      rintro σ H Q ⟨W, env, obs, S, g⟩
      refine LG.bnd earlyE S g fun x o1 v W1 H1 l1 S1 r1 g1 => ?_
      have r1 : v = x := r1
      subst r1
      cases v with
      | true => exact ⟨W1, env, o1, S1, g1⟩
      | false => exact ⟨W1, env, o1, S1, g1⟩
    | _ => simp [chkE] at h
  | .tup es, X, sc, W0, e, c, tk, h => by
    cases e with
    | Tuple es' k pos =>
      refine PE.weak (pe_tup (soundEs es c tk (by simpa [chkE] using h))) ?_
      rintro σ H Q ⟨W, env, obs, S, g⟩
      refine LG.bnd earlyE S g fun ds o1 vs W1 H1 l1 S1 r1 g1 => ?_
      split at g1
      · rename_i hl
        have r1 : W1.reps X.K vs ds := r1
        exact ⟨by rw [r1.length]; exact hl, GP.tup S1 g1 r1⟩
      · exact g1.elim
    | _ => simp [chkE] at h
  | .lst es, X, sc, W0, e, c, tk, h => by
    cases e with
    | List es' pos =>
      refine PE.weak (pe_lst (soundEs es c tk (by simpa [chkE] using h))) ?_
      rintro σ H Q ⟨W, env, obs, S, g⟩
      refine LG.bnd earlyE S g fun ds o1 vs W1 H1 l1 S1 r1 g1 => ?_
      split at g1
      · rename_i hl
        have r1 : W1.reps X.K vs ds := r1
        exact ⟨by rw [r1.length]; exact hl, GP.lst S1 g1 r1⟩
      · exact g1.elim
    | _ => simp [chkE] at h
  | .ix a b, X, sc, W0, e, c, tk, h => by
    cases e with
    | Subscript a' b' pos =>
      simp only [chkE, Bool.and_eq_true, Bool.not_eq_true'] at h
      obtain ⟨⟨h1, h2⟩, h3⟩ := h
      obtain ⟨r, hr, hop⟩ := ix_ok (X := X) (CA := CA)
      refine PE.weak (pe_ix hr (soundE a c tk h1) (soundE b c tk h2) (plainIx_ok h3)) ?_
      rintro σ H Q ⟨W, env, obs, S, g⟩
      refine LG.bnd earlyE S g fun x o1 v W1 H1 l1 S1 r1 g1 => ?_
      refine LG.bnd earlyE S1 g1 fun y o2 u W2 H2 l2 S2 r2 g2 => ?_
      obtain ⟨d, e, q⟩ := GP.opt g2
      exact hop W2 σ H2 env o2 v u x y d Q S2 (l2.d.rep r1) r2 e q
    | _ => simp [chkE] at h
  | .sl a lo hi, X, sc, W0, e, c, tk, h => by
    cases e with
    | Subscript a' b' pos =>
      cases b' with
      | Slice lo' hi' st pos2 =>
        cases st with
        | none =>
          simp only [chkE, Bool.and_eq_true] at h
          obtain ⟨⟨h1, h2⟩, h3⟩ := h
          obtain ⟨r, hr, hop⟩ := sl_ok (X := X) (CA := CA)
          refine PE.weak (pe_slice hr (soundE a c tk h1) (soundO lo c tk h2) (soundO hi c tk h3)) ?_
          rintro σ H Q ⟨W, env, obs, S, g⟩
          refine LG.bnd earlyE S g fun x o1 v W1 H1 l1 S1 r1 g1 => ?_
          refine LG.bnd earlyE S1 g1 fun y o2 u W2 H2 l2 S2 r2 g2 => ?_
          refine LG.bnd earlyE S2 g2 fun z o3 w W3 H3 l3 S3 r3 g3 => ?_
          have r2 : u = y := r2
          have r3 : w = z := r3
          subst r2; subst r3
          obtain ⟨d, e, q⟩ := GP.opt g3
          exact hop W3 σ H3 env o3 v x d u w Q S3 ((l2.trans l3).d.rep r1) e q
        | some _ => simp [chkE] at h
      | _ => simp [chkE] at h
    | _ => simp [chkE] at h
  | .rev a, X, sc, W0, e, c, tk, h => by
    cases e with
    | Subscript a' b' pos =>
      simp only [chkE, Bool.and_eq_true] at h
      obtain ⟨k, p1, p2, p3, rfl⟩ := isRevSl_ok h.1
      refine PE.weak (pe_revA (soundE a c tk h.2)) ?_
      rintro σ H Q ⟨W, env, obs, S, g⟩
      refine LG.bnd earlyE S g fun x o1 v W1 H1 l1 S1 r1 g1 => ?_
      obtain ⟨d, e, q⟩ := GP.opt g1
      unfold revD at e
      cases x with
      | lst ds =>
        cases e
        obtain ⟨p, vs, rfl, hp, rs⟩ := S1.lst r1
        exact ⟨p, vs, rfl, .inl ⟨SqL.of hp, GP.lst S1 q rs.reverse⟩⟩
      | tup ds =>
        simp only at e
        split at e
        · cases e
          obtain ⟨p, vs, rfl, hp, rs⟩ := S1.tup r1
          exact ⟨p, vs, rfl, .inr ⟨hp, GP.tup S1 q rs.reverse⟩⟩
        · cases e
      | _ => cases e
    | _ => simp [chkE] at h
  | .call f es, X, sc, W0, e, c, tk, h => by
    cases e with
    | Call g es' kws pos =>
      cases g with
      | Name x p =>
        cases kws with
        | cons _ _ => simp [chkE] at h
        | nil =>
          simp only [chkE, Bool.and_eq_true, Bool.not_eq_true', beq_iff_eq] at h
          obtain ⟨⟨⟨⟨rfl, h1⟩, h2⟩, h3⟩, h4⟩ := h
          obtain ⟨a, fd, ps, F, hm, hk, hb⟩ := c.mo.fn f (by simpa using h3)
          cases es' with
          | nil =>
            cases es with
            | cons _ _ => simp [chkEs] at h4
            | nil =>
              refine PE.weak (pe_callS0 (E := WE W0) F c.room (glB_ok c.hsc h1) hm hk hb (passAt tk) h2) ?_
              rintro σ H Q ⟨W, env, obs, S, g⟩
              have g : GP X.K CA W0 (relE X.K) W env σ H Q (Φ f [] obs) := g
              exact call_of S .nil g
          | cons e0 er =>
            have hst := chk_star h4
            refine PE.weak (pe_callS (E := WE W0) F c.room (glB_ok c.hsc h1) hm hk hb (passAt tk) (soundEs es c tk h4) h2 (star_ok (hst e0 List.mem_cons_self)) (plain_of fun x hx => hst x (List.mem_cons_of_mem _ hx))) ?_
            rintro σ H Q ⟨W, env, obs, S, g⟩
            exact LG.bnd earlyE S g fun ds o1 vs W1 H1 l1 S1 r1 g1 => call_of S1 r1 g1
      | _ => simp [chkE] at h
    | _ => simp [chkE] at h
  | .bi f es, X, sc, W0, e, c, tk, h => by
    cases e with
    | Call g es' kws pos =>
      cases g with
      | Name x p =>
        cases kws with
        | cons _ _ => simp [chkE] at h
        | nil =>
          simp only [chkE, Bool.and_eq_true, Bool.not_eq_true', beq_iff_eq, Bool.or_eq_true] at h
          obtain ⟨⟨⟨⟨⟨rfl, h1⟩, h2⟩, h3⟩, h4⟩, h5⟩ := h
          have hm := c.mo.bi _ (by simpa using h2)
          cases es' with
          | nil => simp at h4
          | cons e0 er =>
            have hst := chk_star h5
            rcases h3 with h3 | h3
            · have h3 : f ∈ biB := by simpa using h3
              obtain ⟨r, hr, hop⟩ := biB_ok (X := X) (CA := CA) c.calm f h3
              obtain ⟨b1, b2, b3⟩ := boot_B f h3
              refine PE.weak (pe_callB hr (glB_ok c.hsc h1) hm b1 (soundEs es c tk h5) b2 b3 (star_ok (hst e0 List.mem_cons_self)) (plain_of fun x hx => hst x (List.mem_cons_of_mem _ hx))) ?_
              rintro σ H Q ⟨W, env, obs, S, g⟩
              refine LG.bnd earlyE S g fun ds o1 vs W1 H1 l1 S1 r1 g1 => ?_
              obtain ⟨d, e, q⟩ := GP.opt g1
              exact hop W1 σ H1 env o1 vs ds d Q S1 r1 e q
            · have h3 : f ∈ biT := by simpa using h3
              obtain ⟨r, hr, hop⟩ := biT_ok (X := X) (CA := CA) f h3
              obtain ⟨b1, b2, b3⟩ := boot_T f h3
              refine PE.weak (pe_callTy hr (glB_ok c.hsc h1) hm b1 (soundEs es c tk h5) b2 b3 (star_ok (hst e0 List.mem_cons_self)) (plain_of fun x hx => hst x (List.mem_cons_of_mem _ hx))) ?_
              rintro σ H Q ⟨W, env, obs, S, g⟩
              refine LG.bnd earlyE S g fun ds o1 vs W1 H1 l1 S1 r1 g1 => ?_
              obtain ⟨d, e, q⟩ := GP.opt g1
              exact hop W1 σ H1 env o1 vs ds d Q S1 r1 e q
      | _ => simp [chkE] at h
    | _ => simp [chkE] at h
  | .isi a t, X, sc, W0, e, c, tk, h => by
    cases e with
    | Call g es' kws pos =>
      cases g with
      | Name x p =>
        cases kws with
        | cons _ _ => simp [chkE] at h
        | nil =>
          unfold chkE at h
          split at h
          · simp only [Bool.and_eq_true, Bool.not_eq_true', beq_iff_eq] at h
            obtain ⟨⟨⟨⟨⟨⟨⟨⟨rfl, h1⟩, h2⟩, h3⟩, rfl⟩, h4⟩, h5⟩, h6⟩, h7⟩ := h
            have ht : t ∈ isiTs := by simpa using h3
            obtain ⟨b1, b2, b3⟩ := boot_isi t ht
            obtain ⟨r, hr, hop⟩ := isi_ok (X := X) (CA := CA) ht
            refine PE.weak (pe_callB hr (glB_ok c.hsc h1) (c.mo.bi _ (by simpa using h2)) boot_isin (pa_cons (soundE a c tk h6) (pa_cons (pe_bltn (v := .ty t) (glB_ok c.hsc h4) (c.mo.bi _ (by simpa using h5)) b1 rfl b2 b3) pa_nil) (star_ok h7)) (by decide) (by decide) (star_ok h7)) ?_
            rintro σ H Q ⟨W, env, obs, S, g⟩
            refine LG.bnd earlyE S g fun x o1 v W1 H1 l1 S1 r1 g1 => ?_
            obtain ⟨d, e, q⟩ := GP.opt g1
            rw [Option.map_eq_some_iff] at e
            obtain ⟨k, e, rfl⟩ := e
            exact hop W1 σ H1 env o1 v x k Q S1 r1 e (q _ W1 H1 .refl S1 (.bl k))
          · cases h
      | _ => simp [chkE] at h
    | _ => simp [chkE] at h
  | .mth T m a es, X, sc, W0, e, c, tk, h => by simp [chkE] at h
  | .lc x tg it k own, X, sc, W0, e, c, tk, h => by
    cases e with
    | ListComp x' gs scope pos =>
      unfold chkE at h
      split at h
      · simp only [Bool.and_eq_true] at h
        obtain ⟨⟨⟨⟨h1, h2⟩, h3⟩, h4⟩, h5⟩ := h
        have cb : ∀ (s : Shared) (H : Hp) (C : Addr) (cl : List (Str × Addr)) (fp : List Addr), Ctx CA fs bs N G Φ n (relS scope sc) (X.blk s H scope (compEnvC scope cl C X.env) fp) := fun s H C cl fp =>
          ⟨c.hN, c.nd, by rw [← c.hsc]; rfl, c.calm, c.room, c.mo⟩
        have hpg : ∀ (s : Shared) (H : Hp) (C : Addr) (cl : List (Str × Addr)) (fp : List Addr), PG (X.blk s H scope (compEnvC scope cl C X.env) fp) _ (gTg X.K tg) ∧ ∀ i ∈ tg.sl, i ∈ own.map (·.2) := fun s H C cl fp =>
          pg_of (X := X.blk s H scope (compEnvC scope cl C X.env) fp) c.hN c.nd c.calm (fun y hy => by
            unfold locB at hy
            split at hy
            · rename_i e
              have : (relS scope X.env.scope).names.lookup y = some .local := lookup_relS_keep (by decide) e
              exact ⟨.inl this, .inr this⟩
            · rename_i e
              have : (relS scope X.env.scope).names.lookup y = some .cell := lookup_relS_keep (by decide) e
              exact ⟨.inr this, .inl (by show (scope.names.lookup y == some .cell) = true; rw [e]; rfl)⟩
            · cases hy) h3
        have hfold : ∀ z, foldedSetIterable _ X.env z = pure z := folded_ok (chkI_set h2)
        have ok : BlkOk X.N X.env.scope scope own := by rw [c.hN, c.hsc]; exact blkOk_by h1
        refine PE.weak (pe_lc (tt := LT X.K CA (fun _ _ _ _ => False) (denC Φ G k)) (te := LE X.K CA (fun _ _ _ _ => False) (denE Φ G x)) c.calm (by rw [c.hN]; exact c.nd) (soundI it c tk h2) ok (fun s H C cl fp => (hpg s H C cl fp).1) (fun s H C cl fp => soundC k (cb s H C cl fp) takes0 h4) (fun s H C cl fp => soundE x (cb s H C cl fp) takes0 h5) hfold) ?_
        intro σ H Q g
        refine lc_of (fun i hi => ?_) (lf_of g)
        exact chkTg_own h3 i hi
      · cases h
    | _ => simp [chkE] at h
  | .lc2 x tg it k tg1 it1 k1 own vs1, X, sc, W0, e, c, tk, h => by
    cases e with
    | ListComp x' gs scope pos =>
      unfold chkE at h
      split at h
      · simp only [Bool.and_eq_true, List.all_eq_true] at h
        obtain ⟨⟨⟨⟨⟨⟨⟨⟨h1, h2⟩, h3⟩, h4⟩, h6⟩, h7⟩, h8⟩, h9⟩, h5⟩ := h
        have cb : ∀ (s : Shared) (H : Hp) (C : Addr) (cl : List (Str × Addr)) (fp : List Addr), Ctx CA fs bs N G Φ n (relS scope sc) (X.blk s H scope (compEnvC scope cl C X.env) fp) := fun s H C cl fp =>
          ⟨c.hN, c.nd, by rw [← c.hsc]; rfl, c.calm, c.room, c.mo⟩
        have hloc : ∀ (s : Shared) (H : Hp) (C : Addr) (cl : List (Str × Addr)) (fp : List Addr), LocOk (X.blk s H scope (compEnvC scope cl C X.env) fp) scope := fun s H C cl fp y hy => by
            unfold locB at hy
            split at hy
            · rename_i e
              have : (relS scope X.env.scope).names.lookup y = some .local := lookup_relS_keep (by decide) e
              exact ⟨.inl this, .inr this⟩
            · rename_i e
              have : (relS scope X.env.scope).names.lookup y = some .cell := lookup_relS_keep (by decide) e
              exact ⟨.inr this, .inl (by show (scope.names.lookup y == some .cell) = true; rw [e]; rfl)⟩
            · cases hy
        have hpg : ∀ (s : Shared) (H : Hp) (C : Addr) (cl : List (Str × Addr)) (fp : List Addr), PG (X.blk s H scope (compEnvC scope cl C X.env) fp) _ (gTg X.K tg) ∧ ∀ i ∈ tg.sl, i ∈ own.map (·.2) := fun s H C cl fp =>
          pg_of (X := X.blk s H scope (compEnvC scope cl C X.env) fp) c.hN c.nd c.calm (hloc s H C cl fp) h3
        have hpg1 : ∀ (s : Shared) (H : Hp) (C : Addr) (cl : List (Str × Addr)) (fp : List Addr), PG (X.blk s H scope (compEnvC scope cl C X.env) fp) _ (gTg X.K tg1) ∧ ∀ i ∈ tg1.sl, i ∈ vs1 := fun s H C cl fp =>
          pg_of (X := X.blk s H scope (compEnvC scope cl C X.env) fp) c.hN c.nd c.calm (hloc s H C cl fp) h7
        have hfold : ∀ z, foldedSetIterable _ X.env z = pure z := folded_ok (chkI_set h2)
        have hfold1 : ∀ env z, foldedSetIterable _ env z = pure z := fun env => folded_ok (chkI_set h6)
        have ok : BlkOk X.N X.env.scope scope own := by rw [c.hN, c.hsc]; exact blkOk_by h1
        refine PE.weak (pe_lc2 (tt := LT X.K CA (fun _ _ _ _ => False) (denC Φ G k)) (wi1 := LG X.K CA (fun _ _ _ _ => False) (relI X.K CA) (denI Φ G it1)) (tt1 := LT X.K CA (fun _ _ _ _ => False) (denC Φ G k1)) (te := LE X.K CA (fun _ _ _ _ => False) (denE Φ G x)) c.calm (by rw [c.hN]; exact c.nd) (soundI it c tk h2) ok (fun i hi => by simpa using h8 i hi) (fun s H C cl fp => (hpg s H C cl fp).1) (fun s H C cl fp => soundC k (cb s H C cl fp) takes0 h4)
          (fun s H C cl fp => soundI it1 (cb s H C cl fp) takes0 h6) (fun s H C cl fp => (hpg1 s H C cl fp).1) (fun s H C cl fp => soundC k1 (cb s H C cl fp) takes0 h9) (fun s H C cl fp => soundE x (cb s H C cl fp) takes0 h5) hfold hfold1) ?_
        intro σ H Q g
        exact lc2_of (fun i hi => chkTg_own h3 i hi) (fun i hi => chkTg_own h7 i hi) (lf_of g)
      · cases h
    | _ => simp [chkE] at h
  | .sset a, X, sc, W0, e, c, tk, h => by
    cases e with
    | Call g es' kws pos =>
      cases g with
      | Name x p =>
        cases kws with
        | cons _ _ => simp [chkE] at h
        | nil =>
          unfold chkE at h
          split at h
          · simp only [Bool.and_eq_true, beq_iff_eq] at h
            obtain ⟨⟨⟨⟨⟨⟨rfl, h1⟩, h2⟩, rfl⟩, h3⟩, h4⟩, h⟩ := h
            split at h
            · simp only [Bool.and_eq_true, Bool.not_eq_true'] at h
              obtain ⟨h5, h6⟩ := h
              obtain ⟨b1, b2, b3⟩ := boot_B "sorted" (by decide)
              refine PE.weak (pe_callB (cr_sortedSet c.calm) (glB_ok c.hsc h1) (c.mo.bi _ (by simpa using h2)) b1 (pa_cons (pe_callTy (call_setL (X := X) c.calm) (glB_ok c.hsc h3) (c.mo.bi _ (by simpa using h4)) boot_set (pa_cons (soundE a c tk h5) pa_nil (star_ok h6)) (by decide) (by decide) (star_ok h6) rfl) pa_nil rfl) b2 b3 rfl rfl) ?_
              rintro σ H Q ⟨W, env, obs, S, g⟩
              refine LG.bnd earlyE S g fun x o1 v W1 H1 l1 S1 r1 g1 => ?_
              obtain ⟨d, e, q⟩ := GP.opt g1
              unfold ssetD at e
              cases x with
              | lst ds =>
                simp only [Option.bind_eq_some_iff] at e
                obtain ⟨ns, e1, e⟩ := e
                split at e
                · rename_i h64
                  cases e
                  cases intsD_some e1
                  obtain ⟨p, vs, rfl, hp, rs⟩ := S1.lst r1
                  rw [rs.to_ints] at hp
                  refine ⟨p, ns, rfl, SqL.of hp, by have := h64; unfold scanBound at *; omega, fun u c hu hc => ?_⟩
                  refine ⟨u, _, c, rfl, upd_same, by omega, fun ms w hs hm hl hw => ?_⟩
                  have e2 : ms = ssetI ns := sset_eq hs fun k => by rw [hm]; simp
                  subst e2
                  have S2 := S1.heap (H' := upd H1 u (SetO X.w u (fun j => decide (j ∈ ns)) c)) fun a o z => by rw [upd_ne (ne_of_none z hu)]; exact z
                  have l2 := leE_heap S1 (H' := upd H1 u (SetO X.w u (fun j => decide (j ∈ ns)) c)) fun a o z => by rw [upd_ne (ne_of_none z hu)]; exact z
                  exact GP.lst S2 (fun v W' H' l S' r => q v W' H' (l2.trans l) S' r) (Reps.ints _) w hw
                · cases e
              | _ => cases e
            · cases h
          · cases h
      | _ => simp [chkE] at h
    | _ => simp [chkE] at h
  | .sdic a, X, sc, W0, e, c, tk, h => by
    cases e with
    | Call g es' kws pos =>
      cases g with
      | Name x p =>
        cases kws with
        | cons _ _ => simp [chkE] at h
        | nil =>
          unfold chkE at h
          split at h
          · simp only [Bool.and_eq_true, beq_iff_eq] at h
            obtain ⟨⟨⟨⟨⟨⟨rfl, h1⟩, h2⟩, rfl⟩, h3⟩, h4⟩, h⟩ := h
            split at h
            · simp only [Bool.and_eq_true, Bool.not_eq_true'] at h
              obtain ⟨h5, h6⟩ := h
              obtain ⟨b1, b2, b3⟩ := boot_B "sorted" (by decide)
              refine PE.weak (pe_callB (call_sortedDI c.calm) (glB_ok c.hsc h1) (c.mo.bi _ (by simpa using h2)) b1 (pa_cons (pe_callTy (call_dictP (X := X) c.calm) (glB_ok c.hsc h3) (c.mo.bi _ (by simpa using h4)) boot_dic (pa_cons (soundE a c tk h5) pa_nil (star_ok h6)) (by decide) (by decide) (star_ok h6) rfl) pa_nil rfl) b2 b3 rfl rfl) ?_
              rintro σ H Q ⟨W, env, obs, S, g⟩
              refine LG.bnd earlyE S g fun x o1 v W1 H1 l1 S1 r1 g1 => ?_
              obtain ⟨d, e, q⟩ := GP.opt g1
              unfold sdicD at e
              cases x with
              | lst ds =>
                simp only [Option.bind_eq_some_iff] at e
                obtain ⟨ns, e1, e⟩ := e
                split at e
                · rename_i h64
                  cases e
                  obtain ⟨p, vs, rfl, hp, rs⟩ := S1.lst r1
                  obtain ⟨ps, kvs, rfl, hk, hpa⟩ := fsts_ok S1 rs e1
                  refine ⟨p, ps, kvs, rfl, SqL.of hp, hpa, fun u hu => ?_⟩
                  obtain ⟨ms, m1, m2, m3, m4⟩ := mergeK_keys kvs [] ns [] hk rfl .nil
                  refine ⟨u, _, ms, rfl, Rd.of upd_same, m1, by simp only [List.length_nil] at m4; omega, fun ys w hp2 hs hw => ?_⟩
                  have e2 : ys = ssetI ns := sset_eq (by
                    have nd : ys.Nodup := hp2.nodup_iff.mpr m2
                    exact (hs.and nd).imp fun h => by omega) fun k => by rw [hp2.mem_iff, m3]; simp
                  subst e2
                  have S2 := S1.heap (H' := upd H1 u (.dK (mergeK [] kvs))) fun a o z => by rw [upd_ne (ne_of_none z hu)]; exact z
                  have l2 := leE_heap S1 (H' := upd H1 u (.dK (mergeK [] kvs))) fun a o z => by rw [upd_ne (ne_of_none z hu)]; exact z
                  exact GP.lst S2 (fun v W' H' l S' r => q v W' H' (l2.trans l) S' r) (Reps.ints _) w hw
                · cases e
              | _ => cases e
            · cases h
          · cases h
      | _ => simp [chkE] at h
    | _ => simp [chkE] at h
  | .oix a b, X, sc, W0, e, c, tk, h => by
    cases e with
    | Subscript a' b' pos =>
      simp only [chkE, Bool.and_eq_true, Bool.not_eq_true'] at h
      obtain ⟨⟨h1, h2⟩, h3⟩ := h
      refine PE.weak (pe_ix ix_seq (soundE a c tk h1) (soundE b c tk h2) (plainIx_ok h3)) ?_
      rintro σ H Q ⟨W, env, obs, S, g⟩
      refine LG.bnd earlyE S g fun x o1 v W1 H1 l1 S1 r1 g1 => ?_
      refine LG.bnd earlyE S1 g1 fun y o2 u W2 H2 l2 S2 r2 g2 => ?_
      obtain ⟨d, e, q⟩ := GP.opt g2
      cases y with
      | int i =>
        cases r2
        rw [Option.bind_eq_some_iff] at e
        obtain ⟨ds, e1, e2⟩ := e
        obtain ⟨n, rfl, e3⟩ := lsO_some e1
        obtain ⟨p, vs, rfl, _, hp, rs⟩ := S2.ols (l2.d.rep r1) e3
        obtain ⟨w, a1, a2⟩ := rs.atI e2
        exact .inl ⟨p, vs, _, w, rfl, rfl, SqL.of hp, a1, q _ W2 H2 .refl S2 a2⟩
      | _ => cases e
    | _ => simp [chkE] at h
  | .olen a, X, sc, W0, e, c, tk, h => by
    cases e with
    | Call g es' kws pos =>
      cases g with
      | Name x p =>
        cases kws with
        | cons _ _ => simp [chkE] at h
        | nil =>
          unfold chkE at h
          split at h
          · simp only [Bool.and_eq_true, Bool.not_eq_true', beq_iff_eq] at h
            obtain ⟨⟨⟨⟨rfl, h1⟩, h2⟩, h3⟩, h4⟩ := h
            obtain ⟨b1, b2, b3⟩ := boot_B "len" (by decide)
            refine PE.weak (pe_callB call_len (glB_ok c.hsc h1) (c.mo.bi _ (by simpa using h2)) b1 (pa_cons (soundE a c tk h3) pa_nil (star_ok h4)) b2 b3 (star_ok h4) rfl) ?_
            rintro σ H Q ⟨W, env, obs, S, g⟩
            refine LG.bnd earlyE S g fun x o1 v W1 H1 l1 S1 r1 g1 => ?_
            obtain ⟨d, e, q⟩ := GP.opt g1
            rw [Option.map_eq_some_iff] at e
            obtain ⟨ds, e1, rfl⟩ := e
            obtain ⟨n, rfl, e3⟩ := lsO_some e1
            obtain ⟨p, vs, rfl, _, hp, rs⟩ := S1.ols r1 e3
            exact ⟨_, vs.length, rfl, .inl ⟨vs, SqL.of hp, rfl⟩, by rw [rs.length]; exact q _ W1 H1 .refl S1 (.int _)⟩
          · cases h
      | _ => simp [chkE] at h
    | _ => simp [chkE] at h
  | .olist a, X, sc, W0, e, c, tk, h => by
    cases e with
    | Call g es' kws pos =>
      cases g with
      | Name x p =>
        cases kws with
        | cons _ _ => simp [chkE] at h
        | nil =>
          unfold chkE at h
          split at h
          · simp only [Bool.and_eq_true, Bool.not_eq_true', beq_iff_eq] at h
            obtain ⟨⟨⟨⟨rfl, h1⟩, h2⟩, h3⟩, h4⟩ := h
            obtain ⟨b1, b2, b3⟩ := boot_T "list" (by decide)
            refine PE.weak (pe_callTy call_list_of (glB_ok c.hsc h1) (c.mo.bi _ (by simpa using h2)) b1 (pa_cons (soundE a c tk h3) pa_nil (star_ok h4)) b2 b3 (star_ok h4) rfl) ?_
            rintro σ H Q ⟨W, env, obs, S, g⟩
            refine LG.bnd earlyE S g fun x o1 v W1 H1 l1 S1 r1 g1 => ?_
            cases x with
            | lst ds =>
              obtain ⟨q, vs, rfl, hp, rs⟩ := S1.lst r1
              exact ⟨q, vs, rfl, .inl (SqL.of hp), GP.onew S1 g1 rs⟩
            | tup ds =>
              obtain ⟨q, vs, rfl, hp, rs⟩ := S1.tup r1
              exact ⟨q, vs, rfl, .inr hp, GP.onew S1 g1 rs⟩
            | _ => exact g1.elim
          · cases h
      | _ => simp [chkE] at h
    | _ => simp [chkE] at h
  | .onew es, X, sc, W0, e, c, tk, h => by
    cases e with
    | List es' pos =>
      refine PE.weak (pe_lst (soundEs es c tk (by simpa [chkE] using h))) ?_
      rintro σ H Q ⟨W, env, obs, S, g⟩
      refine LG.bnd earlyE S g fun ds o1 vs W1 H1 l1 S1 r1 g1 => ?_
      split at g1
      · rename_i hl
        have r1 : W1.reps X.K vs ds := r1
        exact ⟨by rw [r1.length]; exact hl, GP.onew S1 g1 r1⟩
      · exact g1.elim
    | _ => simp [chkE] at h
  | .otup a, X, sc, W0, e, c, tk, h => by
    cases e with
    | Call g es' kws pos =>
      cases g with
      | Name x p =>
        cases kws with
        | cons _ _ => simp [chkE] at h
        | nil =>
          unfold chkE at h
          split at h
          · simp only [Bool.and_eq_true, Bool.not_eq_true', beq_iff_eq] at h
            obtain ⟨⟨⟨⟨rfl, h1⟩, h2⟩, h3⟩, h4⟩ := h
            obtain ⟨b1, b2, b3⟩ := boot_T "tuple" (by decide)
            refine PE.weak (pe_callTy call_tuple_of (glB_ok c.hsc h1) (c.mo.bi _ (by simpa using h2)) b1 (pa_cons (soundE a c tk h3) pa_nil (star_ok h4)) b2 b3 (star_ok h4) rfl) ?_
            rintro σ H Q ⟨W, env, obs, S, g⟩
            refine LG.bnd earlyE S g fun x o1 v W1 H1 l1 S1 r1 g1 => ?_
            obtain ⟨d, e, q⟩ := GP.opt g1
            cases hl : lsO o1 x with
            | none => rw [hl] at e; cases e
            | some ds =>
              rw [hl] at e
              cases e
              obtain ⟨m, rfl, e3⟩ := lsO_some hl
              obtain ⟨z, vs, rfl, _, hp, rs⟩ := S1.ols r1 e3
              exact ⟨z, vs, rfl, .inl ⟨SqL.of hp, GP.tup S1 q rs⟩⟩
          · cases h
      | _ => simp [chkE] at h
    | _ => simp [chkE] at h
  | .fld cn x a, X, sc, W0, e, c, tk, h => by
    cases e with
    | Attribute a' x' pos =>
      simp only [chkE, Bool.and_eq_true, beq_iff_eq, List.any_eq_true] at h
      obtain ⟨⟨⟨rfl, b, hb, hdec⟩, h2⟩, h3⟩ := h
      obtain ⟨C, hC, hcl, hno⟩ := c.mo.fi b hb cn x hdec
      refine PE.weak (pe_fld (soundE a c tk h3) (base_ok h2)) ?_
      rintro σ H Q ⟨W, env, obs, S, g⟩
      refine LG.bnd earlyE S g fun y o1 v W1 H1 l1 S1 r1 g1 => ?_
      obtain ⟨d, e, q⟩ := GP.opt g1
      obtain ⟨fs', e1, e2⟩ := Option.bind_eq_some_iff.mp e
      obtain ⟨m, rfl, e3⟩ := insO_some e1
      obtain ⟨p, C', dx, vs, rfl, hA, hC', hp, _, _, hk, hr⟩ := S1.oins r1 e3
      rw [hC] at hC'; cases hC'
      obtain ⟨u, hu, ru⟩ := (fld_rel hk hr).1 d e2
      exact ⟨p, C, dx, vs, u, rfl, hp, hcl, hno, hu, q u W1 H1 .refl S1 ru⟩
    | _ => simp [chkE] at h
  | .mcl cn m a es, X, sc, W0, e, c, tk, h => by
    cases e with
    | Call f es' kws cpos =>
      cases f with
      | Attribute a' m' apos =>
        cases kws with
        | cons _ _ => simp [chkE] at h
        | nil =>
          simp only [chkE, Bool.and_eq_true, beq_iff_eq, List.any_eq_true, decide_eq_true_eq] at h
          obtain ⟨⟨⟨⟨⟨⟨rfl, b, hb, hdec⟩, h2⟩, h3⟩, hn⟩, h4⟩, h5⟩ := h
          obtain ⟨C, f, fd, ps, hC, hcl, hme, F, hbn⟩ := c.mo.me b hb cn m hdec
          have hline : (apos.endLine == cpos.line) = true := by simpa using h3
          have start : ∀ {T : V → Hp → Prop} {σ : L2.St} {H : Hp} {Q : V → Hp → Prop}, LE X.K CA W0 (denE Φ G (.mcl cn m a es)) σ H Q →
              (∀ W env o1 y v H1, SRel X.K CA W σ H1 env o1 → W.rep X.K v y → GP X.K CA W0 (relE X.K) W env σ H1 Q ((denEs Φ G es env o1).bind fun ds o => Φ (mthQ cn m) (y :: ds) o) → (∃ p dx vs, v = .ref p ∧ H1 p = some (.ins C dx vs) ∧ vs.lookup m = none) → T v H1) →
              LE X.K CA W0 (denE Φ G a) σ H T := by
            rintro T σ H Q ⟨W, env, obs, S, g⟩ kk
            refine LG.bnd earlyE S g fun y o1 v W1 H1 l1 S1 r1 g1 => ?_
            cases hi : insO o1 cn y with
            | none => simp only [hi] at g1; exact g1.elim
            | some fs' =>
              simp only [hi] at g1
              cases hl : fs'.lookup m with
              | some d => rw [hl] at g1; exact g1.elim
              | none =>
                rw [hl] at g1
                obtain ⟨k, rfl, e3⟩ := insO_some hi
                obtain ⟨p, C', dx, vs, rfl, hA, hC', hp, _, _, hk, hr⟩ := S1.oins r1 e3
                rw [hC] at hC'; cases hC'
                exact kk W1 env o1 _ _ H1 S1 r1 g1 ⟨p, dx, vs, rfl, hp, (fld_rel hk hr).2 hl⟩
          cases es' with
          | nil =>
            cases es with
            | cons _ _ => simp [chkEs] at h5
            | nil =>
              refine PE.weak (pe_methQ0 (E := WE W0) (soundE a c tk h4) hcl hme F c.room hbn (passAt tk) (base_ok h2) hline) fun σ H Q g => start g ?_
              rintro W env o1 y v H1 S1 r1 g1 ⟨p, dx, vs, e1, e2, e3⟩
              exact ⟨p, dx, vs, e1, e2, e3, call_of S1 (.cons r1 .nil) g1⟩
          | cons e0 er =>
            have hst := chk_star h5
            refine PE.weak (pe_methQ (E := WE W0) (soundE a c tk h4) hcl hme F c.room hbn (passAt tk) (soundEs es c tk h5) (star_ok (hst e0 List.mem_cons_self)) (plain_of fun x hx => hst x (List.mem_cons_of_mem _ hx)) hn (base_ok h2) hline) fun σ H Q g => start g ?_
            rintro W env o1 y v H1 S1 r1 g1 ⟨p, dx, vs, e1, e2, e3⟩
            refine ⟨p, dx, vs, e1, e2, e3, ?_⟩
            exact LG.bnd earlyE S1 g1 fun ds o2 us W2 H2 l2 S2 r2 g2 => call_of S2 (.cons (l2.d.rep r1) r2) g2
      | _ => simp [chkE] at h
    | _ => simp [chkE] at h
  | .mk cn es, X, sc, W0, e, c, tk, h => by
    cases e with
    | Call f es' kws cpos =>
      cases f with
      | Name x p =>
        cases kws with
        | cons _ _ => simp [chkE] at h
        | nil =>
          simp only [chkE, Bool.and_eq_true, Bool.not_eq_true', beq_iff_eq, List.any_eq_true] at h
          obtain ⟨⟨⟨⟨rfl, h1⟩, h2⟩, b, hb, hdec⟩, h5⟩ := h
          obtain ⟨C, f, fd, ps, k, hC, hm, M, hk, F, hbn⟩ := c.mo.ko b hb cn _ hdec
          have hr : Room (k + 1) X.A := c.room.mono hk
          cases es' with
          | nil =>
            cases es with
            | cons _ _ => simp [chkEs] at h5
            | nil =>
              refine PE.weak (pe_makeQ0 (E := WE W0) M F hr (glB_ok c.hsc h1) hm hbn (passAt tk) h2) ?_
              rintro σ H Q ⟨W, env, obs, S, g⟩
              exact fun z dz hz hd ne => make_of S .nil hC hz hd ne g
          | cons e0 er =>
            have hst := chk_star h5
            refine PE.weak (pe_makeQ (E := WE W0) M F hr (glB_ok c.hsc h1) hm hbn (passAt tk) (soundEs es c tk h5) h2 (star_ok (hst e0 List.mem_cons_self)) (plain_of fun x hx => hst x (List.mem_cons_of_mem _ hx))) ?_
            rintro σ H Q ⟨W, env, obs, S, g⟩
            exact LG.bnd earlyE S g fun ds o1 us W1 H1 l1 S1 r1 g1 => fun z dz hz hd ne => make_of S1 r1 hC hz hd ne g1
      | _ => simp [chkE] at h
    | _ => simp [chkE] at h
  | .om m a b, X, sc, W0, e, c, tk, h => by
    cases e with
    | Call f es' kws cpos =>
      cases f with
      | Attribute a' m' apos =>
        cases kws with
        | cons _ _ => simp [chkE] at h
        | nil =>
          unfold chkE at h
          split at h
          · simp only [Bool.and_eq_true, Bool.not_eq_true', beq_iff_eq] at h
            obtain ⟨⟨⟨⟨⟨⟨rfl, h1⟩, h2⟩, h3⟩, h4⟩, h5⟩, h6⟩ := h
            have hst := star_ok (es := []) (env := X.env) h6
            have ha := soundE a c tk h4
            have hb := pa_cons (soundE b c tk h5) pa_nil hst
            have h1 : m ∈ oMs := by simpa using h1
            simp only [oMs, List.mem_cons, List.not_mem_nil, or_false] at h1
            have fin : ∀ {r : V → List V → Hp → VK → Prop}, (∀ (W : Wd) (σ : L2.St) (H : Hp) (env : Env) (o : Obs) (x d : D) (v u : V) (y : D × Obs) (ds : List D) (Q : V → Hp → Prop), SRel X.K CA W σ H env o → W.rep X.K v x → W.rep X.K u d → omD m o x d = some y →
                (∀ w W' H', W.leE W' H H' → SRel X.K CA W' σ H' env y.2 → W'.rep X.K w y.1 → Q w H') → r v [u] H Q) →
                ∀ σ H Q, LE X.K CA W0 (denE Φ G (.om m a b)) σ H Q → tBM X.K "list" r (LE X.K CA W0 (denE Φ G a)) (tCons (LE X.K CA W0 (denE Φ G b)) tNil) σ H Q := by
              intro r hr σ H Q ⟨W, env, obs, S, g⟩
              refine LG.bnd earlyE S g fun x o1 v W1 H1 l1 S1 r1 g1 => ?_
              cases hl : lsO o1 x with
              | none => simp only [hl] at g1; exact g1.elim
              | some ds =>
                simp only [hl] at g1
                obtain ⟨n, rfl, e3⟩ := lsO_some hl
                obtain ⟨p, vs, rfl, _, hp, rs⟩ := S1.ols r1 e3
                refine ⟨.inl ⟨rfl, vs, SqL.of hp⟩, ?_⟩
                refine LG.bnd earlyE S1 g1 fun d o2 u W2 H2 l2 S2 r2 g2 => ?_
                cases hy : omD m o2 (.obj n) d with
                | none => simp only [hy] at g2; exact g2.elim
                | some y =>
                  simp only [hy] at g2
                  exact hr W2 σ H2 env o2 _ d _ u y ds Q S2 (l2.d.rep r1) r2 hy g2
            rcases h1 with rfl | rfl | rfl
            · refine PE.weak (pe_bm PySem.F.plainAttrs_list PySem.F.slot_list_append PySem.F.type_list_append mt_append ha hb (base_ok h2) (by rw [hst]; rfl) (by simpa using h3) hst rfl) (fin ?_)
              intro W σ H env o x d v u y ds Q S rx rd hy q
              unfold omD at hy
              cases hl : lsO o x with
              | none => simp [hl] at hy
              | some es =>
                simp only [hl, beq_self_eq_true, if_true] at hy
                split at hy
                · rename_i hlt
                  cases hy
                  obtain ⟨n, rfl, e3⟩ := lsO_some hl
                  obtain ⟨p, vs, rfl, hA, hp, rs⟩ := S.ols rx e3
                  obtain ⟨S2, l2⟩ := S.owrite (o := .lst (vs ++ [u])) (ob := .ls (es ++ [d])) hA (List.getElem?_eq_some_iff.mp e3).1 ⟨_, upd_same, rs.append (Reps.one rd)⟩
                  exact ⟨p, vs, u, rfl, rfl, hp, by rw [rs.length]; exact hlt, q _ W _ l2 S2 .non⟩
                · cases hy
            · refine PE.weak (pe_bm PySem.F.plainAttrs_list PySem.F.slot_list_extend PySem.F.type_list_extend mt_extend ha hb (base_ok h2) (by rw [hst]; rfl) (by simpa using h3) hst rfl) (fin ?_)
              intro W σ H env o x d v u y ds Q S rx rd hy q
              unfold omD at hy
              cases hl : lsO o x with
              | none => simp [hl] at hy
              | some es =>
                simp only [hl, show (("extend" : String) == "append") = false from by decide, beq_self_eq_true, if_true, Bool.false_eq_true, if_false] at hy
                cases d with
                | lst fs =>
                  simp only at hy
                  split at hy
                  · rename_i hlt
                    cases hy
                    obtain ⟨n, rfl, e3⟩ := lsO_some hl
                    obtain ⟨p, vs, rfl, hA, hp, rs⟩ := S.ols rx e3
                    obtain ⟨b, us, rfl, hb', rb⟩ := S.lst rd
                    obtain ⟨S2, l2⟩ := S.owrite (o := .lst (vs ++ us)) (ob := .ls (es ++ fs)) hA (List.getElem?_eq_some_iff.mp e3).1 ⟨_, upd_same, rs.append rb⟩
                    exact ⟨p, b, vs, us, rfl, rfl, hp, hb', by rw [rs.length, rb.length]; exact hlt, q _ W _ l2 S2 .non⟩
                  · cases hy
                | _ => simp at hy
            · refine PE.weak (pe_bm PySem.F.plainAttrs_list PySem.F.slot_list_pop PySem.F.type_list_pop mt_popAt ha hb (base_ok h2) (by rw [hst]; rfl) (by simpa using h3) hst rfl) (fin ?_)
              intro W σ H env o x d v u y ds Q S rx rd hy q
              unfold omD at hy
              cases hl : lsO o x with
              | none => simp [hl] at hy
              | some es =>
                simp only [hl, show (("pop" : String) == "append") = false from by decide, show (("pop" : String) == "extend") = false from by decide, beq_self_eq_true, if_true, Bool.false_eq_true, if_false] at hy
                cases d with
                | int i =>
                  simp only at hy
                  split at hy
                  · rename_i hlt
                    have hlt := of_decide_eq_true hlt
                    cases hk : seqIndex? i es.length with
                    | none => simp [hk] at hy
                    | some k =>
                      simp only [hk, Option.map_eq_some_iff] at hy
                      obtain ⟨w, hw, rfl⟩ := hy
                      cases rd
                      obtain ⟨n, rfl, e3⟩ := lsO_some hl
                      obtain ⟨p, vs, rfl, hA, hp, rs⟩ := S.ols rx e3
                      obtain ⟨z, hz, rz⟩ := rs.get hw
                      obtain ⟨S2, l2⟩ := S.owrite (o := .lst (vs.eraseIdx k)) (ob := .ls (es.eraseIdx k)) hA (List.getElem?_eq_some_iff.mp e3).1 ⟨_, upd_same, rs.eraseIdx k⟩
                      exact ⟨p, vs, i, k, z, rfl, rfl, hp, hlt.1, hlt.2, by rw [rs.length]; exact hk, hz, q _ W _ l2 S2 rz⟩
                  · cases hy
                | _ => simp at hy
          · cases h
      | _ => simp [chkE] at h
    | _ => simp [chkE] at h
  | .bor i a, X, sc, W0, e, c, tk, h => by
    refine PE.weak (soundE a c tk (by simpa [chkE] using h)) fun σ H Q g => ?_
    refine bor_of (ok := noL) (fun W W1 W' W2 H' v d r k hF hA => ?_) g
    show Rep X.K W2.F W2.A v d
    rw [hA]; exact Rep.noL hF r k
theorem soundCon : ∀ (es : Es) {X : Cx} {sc : Scope} {W0 : WX} {es' : List Expr} {pos : Pos}, Ctx CA fs bs N G Φ n sc X → Takes X W0 → chkEs fs bs N sc es es' = true → PE X (.BoolOp .And es' pos) (LE X.K CA W0 (denCon Φ G es))
  | .nil, X, sc, W0, es', pos, c, tk, h => by
    cases es' with
    | nil => exact ⟨fun pins s σ H Q I ⟨W, env, obs, S, g⟩ => g.elim⟩
    | cons _ _ => simp [chkEs] at h
  | .cons a .nil, X, sc, W0, es', pos, c, tk, h => by
    cases es' with
    | nil => simp [chkEs] at h
    | cons a' r' =>
      simp only [chkEs, Bool.and_eq_true] at h
      cases r' with
      | nil => exact PE.weak (pe_one (soundE a c tk h.1.1)) fun σ H Q g => g
      | cons _ _ => simp [chkEs] at h
  | .cons a (.cons b r), X, sc, W0, es', pos, c, tk, h => by
    cases es' with
    | nil => simp [chkEs] at h
    | cons a' r' =>
      cases r' with
      | nil => simp [chkEs] at h
      | cons b' r' =>
        have h1 : chkE fs bs N sc a a' = true := by simp only [chkEs, Bool.and_eq_true] at h; exact h.1.1
        have h2 : chkEs fs bs N sc (.cons b r) (b' :: r') = true := by
          unfold chkEs at h; simp only [Bool.and_eq_true] at h; exact h.2
        refine PE.weak (pe_and (soundE a c tk h1) (soundCon (.cons b r) c tk h2)) ?_
        rintro σ H Q ⟨W, env, obs, S, g⟩
        refine LG.bnd earlyE S g fun x o1 v W1 H1 l1 S1 r1 g1 => ?_
        cases x with
        | bl k =>
          cases r1
          cases k with
          | true => exact ⟨true, rfl, W1, env, o1, S1, g1⟩
          | false => exact ⟨false, rfl, g1 _ W1 H1 .refl S1 (.bl _)⟩
        | _ => exact g1.elim
theorem soundDis : ∀ (es : Es) {X : Cx} {sc : Scope} {W0 : WX} {es' : List Expr} {pos : Pos}, Ctx CA fs bs N G Φ n sc X → Takes X W0 → chkEs fs bs N sc es es' = true → PE X (.BoolOp .Or es' pos) (LE X.K CA W0 (denDis Φ G es))
  | .nil, X, sc, W0, es', pos, c, tk, h => by
    cases es' with
    | nil => exact ⟨fun pins s σ H Q I ⟨W, env, obs, S, g⟩ => g.elim⟩
    | cons _ _ => simp [chkEs] at h
  | .cons a .nil, X, sc, W0, es', pos, c, tk, h => by
    cases es' with
    | nil => simp [chkEs] at h
    | cons a' r' =>
      simp only [chkEs, Bool.and_eq_true] at h
      cases r' with
      | nil => exact PE.weak (pe_one (soundE a c tk h.1.1)) fun σ H Q g => g
      | cons _ _ => simp [chkEs] at h
  | .cons a (.cons b r), X, sc, W0, es', pos, c, tk, h => by
    cases es' with
    | nil => simp [chkEs] at h
    | cons a' r' =>
      cases r' with
      | nil => simp [chkEs] at h
      | cons b' r' =>
        have h1 : chkE fs bs N sc a a' = true := by simp only [chkEs, Bool.and_eq_true] at h; exact h.1.1
        have h2 : chkEs fs bs N sc (.cons b r) (b' :: r') = true := by
          unfold chkEs at h; simp only [Bool.and_eq_true] at h; exact h.2
        refine PE.weak (pe_or (soundE a c tk h1) (soundDis (.cons b r) c tk h2)) ?_
        rintro σ H Q ⟨W, env, obs, S, g⟩
        refine LG.bnd earlyE S g fun x o1 v W1 H1 l1 S1 r1 g1 => ?_
        cases x with
        | bl k =>
          cases r1
          cases k with
          | false => exact ⟨false, rfl, W1, env, o1, S1, g1⟩
          | true => exact ⟨true, rfl, g1 _ W1 H1 .refl S1 (.bl _)⟩
        | _ => exact g1.elim
theorem soundTC : ∀ (es : Es) {X : Cx} {sc : Scope} {W0 : WX} {es' : List Expr} {pos : Pos}, Ctx CA fs bs N G Φ n sc X → Takes X W0 → chkEs fs bs N sc es es' = true → PW X (.BoolOp .And es' pos) (LT X.K CA W0 (denTC Φ G es))
  | .nil, X, sc, W0, es', pos, c, tk, h => by
    cases es' with
    | nil => exact ⟨fun wh pins s σ H Q I ⟨W, env, obs, S, g⟩ => g.elim⟩
    | cons _ _ => simp [chkEs] at h
  | .cons a .nil, X, sc, W0, es', pos, c, tk, h => by
    cases es' with
    | nil => simp [chkEs] at h
    | cons a' r' =>
      simp only [chkEs, Bool.and_eq_true] at h
      cases r' with
      | nil => exact PW.weak (pw_and1 (soundT a c tk h.1.1)) fun σ H Q g => g
      | cons _ _ => simp [chkEs] at h
  | .cons a (.cons b r), X, sc, W0, es', pos, c, tk, h => by
    cases es' with
    | nil => simp [chkEs] at h
    | cons a' r' =>
      cases r' with
      | nil => simp [chkEs] at h
      | cons b' r' =>
        have h1 : chkE fs bs N sc a a' = true := by simp only [chkEs, Bool.and_eq_true] at h; exact h.1.1
        have h2 : chkEs fs bs N sc (.cons b r) (b' :: r') = true := by
          unfold chkEs at h; simp only [Bool.and_eq_true] at h; exact h.2
        refine PW.weak (pw_and (soundT a c tk h1) (soundTC (.cons b r) c tk h2)) ?_
        rintro σ H Q ⟨W, env, obs, S, g⟩
        refine LG.bnd earlyT S g fun x o1 v W1 H1 l1 S1 r1 g1 => ?_
        have r1 : v = x := r1
        subst r1
        cases v with
        | true => exact ⟨W1, env, o1, S1, g1⟩
        | false => exact g1 _ W1 H1 .refl S1 rfl
theorem soundTD : ∀ (es : Es) {X : Cx} {sc : Scope} {W0 : WX} {es' : List Expr} {pos : Pos}, Ctx CA fs bs N G Φ n sc X → Takes X W0 → chkEs fs bs N sc es es' = true → PW X (.BoolOp .Or es' pos) (LT X.K CA W0 (denTD Φ G es))
  | .nil, X, sc, W0, es', pos, c, tk, h => by
    cases es' with
    | nil => exact ⟨fun wh pins s σ H Q I ⟨W, env, obs, S, g⟩ => g.elim⟩
    | cons _ _ => simp [chkEs] at h
  | .cons a .nil, X, sc, W0, es', pos, c, tk, h => by
    cases es' with
    | nil => simp [chkEs] at h
    | cons a' r' =>
      simp only [chkEs, Bool.and_eq_true] at h
      cases r' with
      | nil => exact PW.weak (pw_or1 (soundT a c tk h.1.1)) fun σ H Q g => g
      | cons _ _ => simp [chkEs] at h
  | .cons a (.cons b r), X, sc, W0, es', pos, c, tk, h => by
    cases es' with
    | nil => simp [chkEs] at h
    | cons a' r' =>
      cases r' with
      | nil => simp [chkEs] at h
      | cons b' r' =>
        have h1 : chkE fs bs N sc a a' = true := by simp only [chkEs, Bool.and_eq_true] at h; exact h.1.1
        have h2 : chkEs fs bs N sc (.cons b r) (b' :: r') = true := by
          unfold chkEs at h; simp only [Bool.and_eq_true] at h; exact h.2
        refine PW.weak (pw_or (soundT a c tk h1) (soundTD (.cons b r) c tk h2)) ?_
        rintro σ H Q ⟨W, env, obs, S, g⟩
        refine LG.bnd earlyT S g fun x o1 v W1 H1 l1 S1 r1 g1 => ?_
        have r1 : v = x := r1
        subst r1
        cases v with
        | false => exact ⟨W1, env, o1, S1, g1⟩
        | true => exact g1 _ W1 H1 .refl S1 rfl
theorem soundEs : ∀ (es : Es) {X : Cx} {sc : Scope} {W0 : WX} {es' : List Expr}, Ctx CA fs bs N G Φ n sc X → Takes X W0 → chkEs fs bs N sc es es' = true → PA X es' (LA X.K CA W0 (denEs Φ G es))
  | .nil, X, sc, W0, es', c, tk, h => by
    cases es' with
    | nil => exact PA.weak pa_nil fun σ H Q ⟨W, env, obs, S, g⟩ => g [] W H .refl S .nil
    | cons _ _ => simp [chkEs] at h
  | .cons a r, X, sc, W0, es', c, tk, h => by
    cases es' with
    | nil => simp [chkEs] at h
    | cons a' r' =>
      simp only [chkEs, Bool.and_eq_true, Bool.not_eq_true'] at h
      refine PA.weak (pa_cons (soundE a c tk h.1.1) (soundEs r c tk h.2) (star_ok h.1.2)) ?_
      rintro σ H Q ⟨W, env, obs, S, g⟩
      refine LG.bnd earlyA S g fun x o1 v W1 H1 l1 S1 r1 g1 => ?_
      refine LG.bnd earlyA S1 g1 fun xs o2 vs W2 H2 l2 S2 r2 g2 => ?_
      exact g2 _ W2 H2 .refl S2 (.cons (l2.d.rep r1) r2)
theorem soundO : ∀ (m : Eo) {X : Cx} {sc : Scope} {W0 : WX} {e : Option Expr}, Ctx CA fs bs N G Φ n sc X → Takes X W0 → chkO fs bs N sc m e = true → PO X e (LO X.K CA W0 (denO Φ G m))
  | .none, X, sc, W0, e, c, tk, h => by
    cases e with
    | none => exact ⟨fun pins s σ H Q I ⟨W, env, obs, S, g⟩ => po_none.run pins s σ H Q I (g none W H .refl S rfl)⟩
    | some _ => simp [chkO] at h
  | .some a, X, sc, W0, e, c, tk, h => by
    cases e with
    | none => simp [chkO] at h
    | some e =>
      refine ⟨fun pins s σ H Q I ⟨W, env, obs, S, g⟩ => (po_some (soundE a c tk (by simpa [chkO] using h))).run pins s σ H Q I ?_⟩
      refine LG.bnd earlyO S g fun x o1 v W1 H1 l1 S1 r1 g1 => ?_
      cases x with
      | int i => cases r1; exact ⟨i, rfl, g1 _ W1 H1 .refl S1 rfl⟩
      | _ => exact g1.elim
theorem soundC : ∀ (m : Eo) {X : Cx} {sc : Scope} {W0 : WX} {es : List Expr}, Ctx CA fs bs N G Φ n sc X → Takes X W0 → chkC fs bs N sc m es = true → PTs X es (LT X.K CA W0 (denC Φ G m))
  | .none, X, sc, W0, es, c, tk, h => by
    cases es with
    | nil => exact ⟨fun pins s σ H Q I ⟨W, env, obs, S, g⟩ => pts_nil.run pins s σ H Q I (g true W H .refl S rfl)⟩
    | cons _ _ => simp [chkC] at h
  | .some a, X, sc, W0, es, c, tk, h => by
    cases es with
    | nil => simp [chkC] at h
    | cons e r =>
      cases r with
      | nil => exact pts_one (soundT a c tk (by simpa [chkC] using h))
      | cons _ _ => simp [chkC] at h
theorem soundT : ∀ (m : E) {X : Cx} {sc : Scope} {W0 : WX} {e : Expr}, Ctx CA fs bs N G Φ n sc X → Takes X W0 → chkE fs bs N sc m e = true → PT X e (LT X.K CA W0 (denT Φ G m))
  | .not a, X, sc, W0, e, c, tk, h => by
    cases e with
    | UnaryOp op a' pos =>
      cases op with
      | Not =>
        refine PT.weak (pt_not (soundT a c tk (by simpa [chkE] using h))) ?_
        rintro σ H Q ⟨W, env, obs, S, g⟩
        refine LG.bnd earlyT S g fun x o1 v W1 H1 l1 S1 r1 g1 => ?_
        have r1 : v = x := r1
        subst r1
        exact g1 _ W1 H1 .refl S1 rfl
      | _ => simp [chkE] at h
    | _ => simp [chkE] at h
  | .con es, X, sc, W0, e, c, tk, h => by
    cases e with
    | BoolOp op es' pos =>
      cases op with
      | And => exact (soundTC es c tk (by simpa [chkE] using h)).pt
      | _ => simp [chkE] at h
    | _ => simp [chkE] at h
  | .dis es, X, sc, W0, e, c, tk, h => by
    cases e with
    | BoolOp op es' pos =>
      cases op with
      | Or => exact (soundTD es c tk (by simpa [chkE] using h)).pt
      | _ => simp [chkE] at h
    | _ => simp [chkE] at h
  | .ife k a b, X, sc, W0, e, c, tk, h => by
    cases e with
    | IfExp k' a' b' pos =>
      simp only [chkE, Bool.and_eq_true] at h
      obtain ⟨⟨h1, h2⟩, h3⟩ := h
      refine PT.weak (pt_ifE (soundT k c tk h1) (soundT a c tk h2) (soundT b c tk h3)) ?_
      rintro σ H Q ⟨W, env, obs, S, g⟩
      refine LG.bnd earlyT S g fun x o1 v W1 H1 l1 S1 r1 g1 => ?_
      have r1 : v = x := r1
      subst r1
      cases v with
      | true => exact ⟨W1, env, o1, S1, g1⟩
      | false => exact ⟨W1, env, o1, S1, g1⟩
    | _ => simp [chkE] at h
  | .bor i a, X, sc, W0, e, c, tk, h => by
    refine PT.weak (soundT a c tk (by simpa [chkE] using h)) fun σ H Q g => ?_
    exact bor_of (f := denT Φ G a) (i := i) (ok := fun _ => true) (fun W W1 W' W2 H' v d r k hF hA => r) g
  | .cmp op a b, X, sc, W0, e, c, tk, h => by
    cases e with
    | Compare a' ops bs' pos =>
      unfold chkE at h
      split at h
      · simp only [Bool.and_eq_true, decide_eq_true_eq, Bool.not_eq_true'] at h
        obtain ⟨⟨⟨rfl, h1⟩, h2⟩, h3⟩ := h
        obtain ⟨r, hr, hop⟩ := cmp_ok (X := X) (CA := CA) (by have := c.room.un; omega) op
        refine PT.weak (pt_cmpR hr (soundE a c tk h1) (soundE b c tk h2) (behind_ok h3)) ?_
        rintro σ H Q ⟨W, env, obs, S, g⟩
        have g : GP X.K CA W0 relT W env σ H Q (((denE Φ G a env obs).bind fun x o => (denE Φ G b env o).bind fun y o => R.opt o ((cmpD op x y).map .bl)).bind fun x o => R.opt o (truD x)) := g
        rw [R.bind_assoc] at g
        refine LG.bnd earlyT S g fun x o1 v W1 H1 l1 S1 r1 g1 => ?_
        rw [R.bind_assoc] at g1
        refine LG.bnd earlyT S1 g1 fun y o2 u W2 H2 l2 S2 r2 g2 => ?_
        cases hc : cmpD op x y with
        | none => rw [hc] at g2; exact g2.elim
        | some k =>
          rw [hc] at g2
          exact hop W2 σ H2 env o2 v u x y k _ S2 (l2.d.rep r1) r2 hc ⟨k, rfl, g2 _ W2 H2 .refl S2 rfl⟩
      · cases h
    | _ => simp [chkE] at h
  | .chn o1 o2 a b d, X, sc, W0, e, c, tk, h => by
    cases e with
    | Compare a' ops bs' pos =>
      unfold chkE at h
      split at h
      · simp only [Bool.and_eq_true, decide_eq_true_eq, Bool.not_eq_true'] at h
        obtain ⟨⟨⟨⟨⟨rfl, rfl⟩, h1⟩, h2⟩, h3⟩, h4⟩ := h
        obtain ⟨r, hr, hop⟩ := cmp_ok (X := X) (CA := CA) (by have := c.room.un; omega) o1
        obtain ⟨r', hr', hop'⟩ := cmp_ok (X := X) (CA := CA) (by have := c.room.un; omega) o2
        refine PT.weak (pt_chain hr hr' (soundE a c tk h1) (soundE b c tk h2) (soundE d c tk h3) (by unfold lastMarks; exact behind_ok h4)) ?_
        rintro σ H Q ⟨W, env, obs, S, g⟩
        have g : GP X.K CA W0 relT W env σ H Q (((denE Φ G a env obs).bind fun x o => (denE Φ G b env o).bind fun y o => match cmpD o1 x y with
          | some true => (denE Φ G d env o).bind fun z o => R.opt o ((cmpD o2 y z).map .bl)
          | some false => .ok (.bl false) o
          | none => .bad).bind fun x o => R.opt o (truD x)) := g
        rw [R.bind_assoc] at g
        refine LG.bnd earlyT S g fun x oo1 v W1 H1 l1 S1 r1 g1 => ?_
        rw [R.bind_assoc] at g1
        refine LG.bnd earlyT S1 g1 fun y oo2 u W2 H2 l2 S2 r2 g2 => ?_
        cases hc : cmpD o1 x y with
        | none => rw [hc] at g2; exact g2.elim
        | some k =>
          rw [hc] at g2
          refine hop W2 σ H2 env oo2 v u x y k _ S2 (l2.d.rep r1) r2 hc ⟨k, rfl, ?_⟩
          cases k with
          | false => exact ⟨false, rfl, g2 _ W2 H2 .refl S2 rfl⟩
          | true =>
            rw [if_pos rfl]
            simp only [R.bind_assoc] at g2
            refine LG.bnd earlyT S2 g2 fun z oo3 w W3 H3 l3 S3 r3 g3 => ?_
            cases hd : cmpD o2 y z with
            | none => rw [hd] at g3; exact g3.elim
            | some k =>
              rw [hd] at g3
              exact hop' W3 σ H3 env oo3 u w y z k _ S3 (l3.d.rep r2) r3 hd ⟨k, rfl, g3 _ W3 H3 .refl S3 rfl⟩
      · cases h
    | _ => simp [chkE] at h
  | .lit d, X, sc, W0, e, c, tk, h => by
    refine PT.weak (pt_truth (soundE (.lit d) c tk h) (plainT_ok (by cases e <;> first | rfl | (simp [chkE] at h) | (rename_i op _ _; cases op <;> first | rfl | (simp [chkE] at h))))) ?_
    rintro σ H Q ⟨W, env, obs, S, g⟩
    have g : GP X.K CA W0 relT W env σ H Q ((denE Φ G (.lit d) env obs).bind fun x o => R.opt o (truD x)) := g
    refine LG.bnd earlyT S g fun x o1 v W1 H1 l1 S1 r1 g1 => ?_
    cases ht : truD x with
    | none => rw [ht] at g1; exact g1.elim
    | some k => rw [ht] at g1; exact ⟨k, tru_of S1 r1 ht, g1 _ W1 H1 .refl S1 rfl⟩
  | .var i, X, sc, W0, e, c, tk, h => by
    refine PT.weak (pt_truth (soundE (.var i) c tk h) (plainT_ok (by cases e <;> first | rfl | (simp [chkE] at h) | (rename_i op _ _; cases op <;> first | rfl | (simp [chkE] at h))))) ?_
    rintro σ H Q ⟨W, env, obs, S, g⟩
    have g : GP X.K CA W0 relT W env σ H Q ((denE Φ G (.var i) env obs).bind fun x o => R.opt o (truD x)) := g
    refine LG.bnd earlyT S g fun x o1 v W1 H1 l1 S1 r1 g1 => ?_
    cases ht : truD x with
    | none => rw [ht] at g1; exact g1.elim
    | some k => rw [ht] at g1; exact ⟨k, tru_of S1 r1 ht, g1 _ W1 H1 .refl S1 rfl⟩
  | .glob x, X, sc, W0, e, c, tk, h => by
    refine PT.weak (pt_truth (soundE (.glob x) c tk h) (plainT_ok (by cases e <;> first | rfl | (simp [chkE] at h) | (rename_i op _ _; cases op <;> first | rfl | (simp [chkE] at h))))) ?_
    rintro σ H Q ⟨W, env, obs, S, g⟩
    have g : GP X.K CA W0 relT W env σ H Q ((denE Φ G (.glob x) env obs).bind fun x o => R.opt o (truD x)) := g
    refine LG.bnd earlyT S g fun x o1 v W1 H1 l1 S1 r1 g1 => ?_
    cases ht : truD x with
    | none => rw [ht] at g1; exact g1.elim
    | some k => rw [ht] at g1; exact ⟨k, tru_of S1 r1 ht, g1 _ W1 H1 .refl S1 rfl⟩
  | .bin op a b, X, sc, W0, e, c, tk, h => by
    refine PT.weak (pt_truth (soundE (.bin op a b) c tk h) (plainT_ok (by cases e <;> first | rfl | (simp [chkE] at h) | (rename_i op _ _; cases op <;> first | rfl | (simp [chkE] at h))))) ?_
    rintro σ H Q ⟨W, env, obs, S, g⟩
    have g : GP X.K CA W0 relT W env σ H Q ((denE Φ G (.bin op a b) env obs).bind fun x o => R.opt o (truD x)) := g
    refine LG.bnd earlyT S g fun x o1 v W1 H1 l1 S1 r1 g1 => ?_
    cases ht : truD x with
    | none => rw [ht] at g1; exact g1.elim
    | some k => rw [ht] at g1; exact ⟨k, tru_of S1 r1 ht, g1 _ W1 H1 .refl S1 rfl⟩
  | .neg a, X, sc, W0, e, c, tk, h => by
    refine PT.weak (pt_truth (soundE (.neg a) c tk h) (plainT_ok (by cases e <;> first | rfl | (simp [chkE] at h) | (rename_i op _ _; cases op <;> first | rfl | (simp [chkE] at h))))) ?_
    rintro σ H Q ⟨W, env, obs, S, g⟩
    have g : GP X.K CA W0 relT W env σ H Q ((denE Φ G (.neg a) env obs).bind fun x o => R.opt o (truD x)) := g
    refine LG.bnd earlyT S g fun x o1 v W1 H1 l1 S1 r1 g1 => ?_
    cases ht : truD x with
    | none => rw [ht] at g1; exact g1.elim
    | some k => rw [ht] at g1; exact ⟨k, tru_of S1 r1 ht, g1 _ W1 H1 .refl S1 rfl⟩
  | .tup es, X, sc, W0, e, c, tk, h => by
    refine PT.weak (pt_truth (soundE (.tup es) c tk h) (plainT_ok (by cases e <;> first | rfl | (simp [chkE] at h) | (rename_i op _ _; cases op <;> first | rfl | (simp [chkE] at h))))) ?_
    rintro σ H Q ⟨W, env, obs, S, g⟩
    have g : GP X.K CA W0 relT W env σ H Q ((denE Φ G (.tup es) env obs).bind fun x o => R.opt o (truD x)) := g
    refine LG.bnd earlyT S g fun x o1 v W1 H1 l1 S1 r1 g1 => ?_
    cases ht : truD x with
    | none => rw [ht] at g1; exact g1.elim
    | some k => rw [ht] at g1; exact ⟨k, tru_of S1 r1 ht, g1 _ W1 H1 .refl S1 rfl⟩
  | .lst es, X, sc, W0, e, c, tk, h => by
    refine PT.weak (pt_truth (soundE (.lst es) c tk h) (plainT_ok (by cases e <;> first | rfl | (simp [chkE] at h) | (rename_i op _ _; cases op <;> first | rfl | (simp [chkE] at h))))) ?_
    rintro σ H Q ⟨W, env, obs, S, g⟩
    have g : GP X.K CA W0 relT W env σ H Q ((denE Φ G (.lst es) env obs).bind fun x o => R.opt o (truD x)) := g
    refine LG.bnd earlyT S g fun x o1 v W1 H1 l1 S1 r1 g1 => ?_
    cases ht : truD x with
    | none => rw [ht] at g1; exact g1.elim
    | some k => rw [ht] at g1; exact ⟨k, tru_of S1 r1 ht, g1 _ W1 H1 .refl S1 rfl⟩
  | .ix a b, X, sc, W0, e, c, tk, h => by
    refine PT.weak (pt_truth (soundE (.ix a b) c tk h) (plainT_ok (by cases e <;> first | rfl | (simp [chkE] at h) | (rename_i op _ _; cases op <;> first | rfl | (simp [chkE] at h))))) ?_
    rintro σ H Q ⟨W, env, obs, S, g⟩
    have g : GP X.K CA W0 relT W env σ H Q ((denE Φ G (.ix a b) env obs).bind fun x o => R.opt o (truD x)) := g
    refine LG.bnd earlyT S g fun x o1 v W1 H1 l1 S1 r1 g1 => ?_
    cases ht : truD x with
    | none => rw [ht] at g1; exact g1.elim
    | some k => rw [ht] at g1; exact ⟨k, tru_of S1 r1 ht, g1 _ W1 H1 .refl S1 rfl⟩
  | .sl a lo hi, X, sc, W0, e, c, tk, h => by
    refine PT.weak (pt_truth (soundE (.sl a lo hi) c tk h) (plainT_ok (by cases e <;> first | rfl | (simp [chkE] at h) | (rename_i op _ _; cases op <;> first | rfl | (simp [chkE] at h))))) ?_
    rintro σ H Q ⟨W, env, obs, S, g⟩
    have g : GP X.K CA W0 relT W env σ H Q ((denE Φ G (.sl a lo hi) env obs).bind fun x o => R.opt o (truD x)) := g
    refine LG.bnd earlyT S g fun x o1 v W1 H1 l1 S1 r1 g1 => ?_
    cases ht : truD x with
    | none => rw [ht] at g1; exact g1.elim
    | some k => rw [ht] at g1; exact ⟨k, tru_of S1 r1 ht, g1 _ W1 H1 .refl S1 rfl⟩
  | .rev a, X, sc, W0, e, c, tk, h => by
    refine PT.weak (pt_truth (soundE (.rev a) c tk h) (plainT_ok (by cases e <;> first | rfl | (simp [chkE] at h) | (rename_i op _ _; cases op <;> first | rfl | (simp [chkE] at h))))) ?_
    rintro σ H Q ⟨W, env, obs, S, g⟩
    have g : GP X.K CA W0 relT W env σ H Q ((denE Φ G (.rev a) env obs).bind fun x o => R.opt o (truD x)) := g
    refine LG.bnd earlyT S g fun x o1 v W1 H1 l1 S1 r1 g1 => ?_
    cases ht : truD x with
    | none => rw [ht] at g1; exact g1.elim
    | some k => rw [ht] at g1; exact ⟨k, tru_of S1 r1 ht, g1 _ W1 H1 .refl S1 rfl⟩
  | .call f es, X, sc, W0, e, c, tk, h => by
    refine PT.weak (pt_truth (soundE (.call f es) c tk h) (plainT_ok (by cases e <;> first | rfl | (simp [chkE] at h) | (rename_i op _ _; cases op <;> first | rfl | (simp [chkE] at h))))) ?_
    rintro σ H Q ⟨W, env, obs, S, g⟩
    have g : GP X.K CA W0 relT W env σ H Q ((denE Φ G (.call f es) env obs).bind fun x o => R.opt o (truD x)) := g
    refine LG.bnd earlyT S g fun x o1 v W1 H1 l1 S1 r1 g1 => ?_
    cases ht : truD x with
    | none => rw [ht] at g1; exact g1.elim
    | some k => rw [ht] at g1; exact ⟨k, tru_of S1 r1 ht, g1 _ W1 H1 .refl S1 rfl⟩
  | .bi f es, X, sc, W0, e, c, tk, h => by
    refine PT.weak (pt_truth (soundE (.bi f es) c tk h) (plainT_ok (by cases e <;> first | rfl | (simp [chkE] at h) | (rename_i op _ _; cases op <;> first | rfl | (simp [chkE] at h))))) ?_
    rintro σ H Q ⟨W, env, obs, S, g⟩
    have g : GP X.K CA W0 relT W env σ H Q ((denE Φ G (.bi f es) env obs).bind fun x o => R.opt o (truD x)) := g
    refine LG.bnd earlyT S g fun x o1 v W1 H1 l1 S1 r1 g1 => ?_
    cases ht : truD x with
    | none => rw [ht] at g1; exact g1.elim
    | some k => rw [ht] at g1; exact ⟨k, tru_of S1 r1 ht, g1 _ W1 H1 .refl S1 rfl⟩
  | .isi a t, X, sc, W0, e, c, tk, h => by
    refine PT.weak (pt_truth (soundE (.isi a t) c tk h) (plainT_ok (by cases e <;> first | rfl | (simp [chkE] at h) | (rename_i op _ _; cases op <;> first | rfl | (simp [chkE] at h))))) ?_
    rintro σ H Q ⟨W, env, obs, S, g⟩
    have g : GP X.K CA W0 relT W env σ H Q ((denE Φ G (.isi a t) env obs).bind fun x o => R.opt o (truD x)) := g
    refine LG.bnd earlyT S g fun x o1 v W1 H1 l1 S1 r1 g1 => ?_
    cases ht : truD x with
    | none => rw [ht] at g1; exact g1.elim
    | some k => rw [ht] at g1; exact ⟨k, tru_of S1 r1 ht, g1 _ W1 H1 .refl S1 rfl⟩
  | .oix a b, X, sc, W0, e, c, tk, h => by
    refine PT.weak (pt_truth (soundE (.oix a b) c tk h) (plainT_ok (by cases e <;> first | rfl | (simp [chkE] at h) | (rename_i op _ _; cases op <;> first | rfl | (simp [chkE] at h))))) ?_
    rintro σ H Q ⟨W, env, obs, S, g⟩
    have g : GP X.K CA W0 relT W env σ H Q ((denE Φ G (.oix a b) env obs).bind fun x o => R.opt o (truD x)) := g
    refine LG.bnd earlyT S g fun x o1 v W1 H1 l1 S1 r1 g1 => ?_
    cases ht : truD x with
    | none => rw [ht] at g1; exact g1.elim
    | some k => rw [ht] at g1; exact ⟨k, tru_of S1 r1 ht, g1 _ W1 H1 .refl S1 rfl⟩
  | .olen a, X, sc, W0, e, c, tk, h => by
    refine PT.weak (pt_truth (soundE (.olen a) c tk h) (plainT_ok (by cases e <;> first | rfl | (simp [chkE] at h) | (rename_i op _ _; cases op <;> first | rfl | (simp [chkE] at h))))) ?_
    rintro σ H Q ⟨W, env, obs, S, g⟩
    have g : GP X.K CA W0 relT W env σ H Q ((denE Φ G (.olen a) env obs).bind fun x o => R.opt o (truD x)) := g
    refine LG.bnd earlyT S g fun x o1 v W1 H1 l1 S1 r1 g1 => ?_
    cases ht : truD x with
    | none => rw [ht] at g1; exact g1.elim
    | some k => rw [ht] at g1; exact ⟨k, tru_of S1 r1 ht, g1 _ W1 H1 .refl S1 rfl⟩
  | .onew es, X, sc, W0, e, c, tk, h => by
    refine PT.weak (pt_truth (soundE (.onew es) c tk h) (plainT_ok (by cases e <;> first | rfl | (simp [chkE] at h) | (rename_i op _ _; cases op <;> first | rfl | (simp [chkE] at h))))) ?_
    rintro σ H Q ⟨W, env, obs, S, g⟩
    have g : GP X.K CA W0 relT W env σ H Q ((denE Φ G (.onew es) env obs).bind fun x o => R.opt o (truD x)) := g
    refine LG.bnd earlyT S g fun x o1 v W1 H1 l1 S1 r1 g1 => ?_
    cases ht : truD x with
    | none => rw [ht] at g1; exact g1.elim
    | some k => rw [ht] at g1; exact ⟨k, tru_of S1 r1 ht, g1 _ W1 H1 .refl S1 rfl⟩
  | .olist a, X, sc, W0, e, c, tk, h => by
    refine PT.weak (pt_truth (soundE (.olist a) c tk h) (plainT_ok (by cases e <;> first | rfl | (simp [chkE] at h) | (rename_i op _ _; cases op <;> first | rfl | (simp [chkE] at h))))) ?_
    rintro σ H Q ⟨W, env, obs, S, g⟩
    have g : GP X.K CA W0 relT W env σ H Q ((denE Φ G (.olist a) env obs).bind fun x o => R.opt o (truD x)) := g
    refine LG.bnd earlyT S g fun x o1 v W1 H1 l1 S1 r1 g1 => ?_
    cases ht : truD x with
    | none => rw [ht] at g1; exact g1.elim
    | some k => rw [ht] at g1; exact ⟨k, tru_of S1 r1 ht, g1 _ W1 H1 .refl S1 rfl⟩
  | .otup a, X, sc, W0, e, c, tk, h => by
    refine PT.weak (pt_truth (soundE (.otup a) c tk h) (plainT_ok (by cases e <;> first | rfl | (simp [chkE] at h) | (rename_i op _ _; cases op <;> first | rfl | (simp [chkE] at h))))) ?_
    rintro σ H Q ⟨W, env, obs, S, g⟩
    have g : GP X.K CA W0 relT W env σ H Q ((denE Φ G (.otup a) env obs).bind fun x o => R.opt o (truD x)) := g
    refine LG.bnd earlyT S g fun x o1 v W1 H1 l1 S1 r1 g1 => ?_
    cases ht : truD x with
    | none => rw [ht] at g1; exact g1.elim
    | some k => rw [ht] at g1; exact ⟨k, tru_of S1 r1 ht, g1 _ W1 H1 .refl S1 rfl⟩
  | .fld cn xx a, X, sc, W0, e, c, tk, h => by
    refine PT.weak (pt_truth (soundE (.fld cn xx a) c tk h) (plainT_ok (by cases e <;> first | rfl | (simp [chkE] at h) | (rename_i op _ _; cases op <;> first | rfl | (simp [chkE] at h))))) ?_
    rintro σ H Q ⟨W, env, obs, S, g⟩
    have g : GP X.K CA W0 relT W env σ H Q ((denE Φ G (.fld cn xx a) env obs).bind fun x o => R.opt o (truD x)) := g
    refine LG.bnd earlyT S g fun x o1 v W1 H1 l1 S1 r1 g1 => ?_
    cases ht : truD x with
    | none => rw [ht] at g1; exact g1.elim
    | some k => rw [ht] at g1; exact ⟨k, tru_of S1 r1 ht, g1 _ W1 H1 .refl S1 rfl⟩
  | .mcl cn m a es, X, sc, W0, e, c, tk, h => by
    refine PT.weak (pt_truth (soundE (.mcl cn m a es) c tk h) (plainT_ok (by cases e <;> first | rfl | (simp [chkE] at h) | (rename_i op _ _; cases op <;> first | rfl | (simp [chkE] at h))))) ?_
    rintro σ H Q ⟨W, env, obs, S, g⟩
    have g : GP X.K CA W0 relT W env σ H Q ((denE Φ G (.mcl cn m a es) env obs).bind fun x o => R.opt o (truD x)) := g
    refine LG.bnd earlyT S g fun x o1 v W1 H1 l1 S1 r1 g1 => ?_
    cases ht : truD x with
    | none => rw [ht] at g1; exact g1.elim
    | some k => rw [ht] at g1; exact ⟨k, tru_of S1 r1 ht, g1 _ W1 H1 .refl S1 rfl⟩
  | .mk cn es, X, sc, W0, e, c, tk, h => by
    refine PT.weak (pt_truth (soundE (.mk cn es) c tk h) (plainT_ok (by cases e <;> first | rfl | (simp [chkE] at h) | (rename_i op _ _; cases op <;> first | rfl | (simp [chkE] at h))))) ?_
    rintro σ H Q ⟨W, env, obs, S, g⟩
    have g : GP X.K CA W0 relT W env σ H Q ((denE Φ G (.mk cn es) env obs).bind fun x o => R.opt o (truD x)) := g
    refine LG.bnd earlyT S g fun x o1 v W1 H1 l1 S1 r1 g1 => ?_
    cases ht : truD x with
    | none => rw [ht] at g1; exact g1.elim
    | some k => rw [ht] at g1; exact ⟨k, tru_of S1 r1 ht, g1 _ W1 H1 .refl S1 rfl⟩
  | .om m a b, X, sc, W0, e, c, tk, h => by
    refine PT.weak (pt_truth (soundE (.om m a b) c tk h) (plainT_ok (by cases e <;> first | rfl | (simp [chkE] at h) | (rename_i op _ _; cases op <;> first | rfl | (simp [chkE] at h))))) ?_
    rintro σ H Q ⟨W, env, obs, S, g⟩
    have g : GP X.K CA W0 relT W env σ H Q ((denE Φ G (.om m a b) env obs).bind fun x o => R.opt o (truD x)) := g
    refine LG.bnd earlyT S g fun x o1 v W1 H1 l1 S1 r1 g1 => ?_
    cases ht : truD x with
    | none => rw [ht] at g1; exact g1.elim
    | some k => rw [ht] at g1; exact ⟨k, tru_of S1 r1 ht, g1 _ W1 H1 .refl S1 rfl⟩
  | .mth T m a es, X, sc, W0, e, c, tk, h => by
    refine PT.weak (pt_truth (soundE (.mth T m a es) c tk h) (plainT_ok (by cases e <;> first | rfl | (simp [chkE] at h) | (rename_i op _ _; cases op <;> first | rfl | (simp [chkE] at h))))) ?_
    rintro σ H Q ⟨W, env, obs, S, g⟩
    have g : GP X.K CA W0 relT W env σ H Q ((denE Φ G (.mth T m a es) env obs).bind fun x o => R.opt o (truD x)) := g
    refine LG.bnd earlyT S g fun x o1 v W1 H1 l1 S1 r1 g1 => ?_
    cases ht : truD x with
    | none => rw [ht] at g1; exact g1.elim
    | some k => rw [ht] at g1; exact ⟨k, tru_of S1 r1 ht, g1 _ W1 H1 .refl S1 rfl⟩
  | .lc x tg it k own, X, sc, W0, e, c, tk, h => by
    refine PT.weak (pt_truth (soundE (.lc x tg it k own) c tk h) (plainT_ok (by cases e <;> first | rfl | (simp [chkE] at h) | (rename_i op _ _; cases op <;> first | rfl | (simp [chkE] at h))))) ?_
    rintro σ H Q ⟨W, env, obs, S, g⟩
    have g : GP X.K CA W0 relT W env σ H Q ((denE Φ G (.lc x tg it k own) env obs).bind fun x o => R.opt o (truD x)) := g
    refine LG.bnd earlyT S g fun x o1 v W1 H1 l1 S1 r1 g1 => ?_
    cases ht : truD x with
    | none => rw [ht] at g1; exact g1.elim
    | some k => rw [ht] at g1; exact ⟨k, tru_of S1 r1 ht, g1 _ W1 H1 .refl S1 rfl⟩
  | .lc2 x tg it k tg1 it1 k1 own vs1, X, sc, W0, e, c, tk, h => by
    refine PT.weak (pt_truth (soundE (.lc2 x tg it k tg1 it1 k1 own vs1) c tk h) (plainT_ok (by cases e <;> first | rfl | (simp [chkE] at h) | (rename_i op _ _; cases op <;> first | rfl | (simp [chkE] at h))))) ?_
    rintro σ H Q ⟨W, env, obs, S, g⟩
    have g : GP X.K CA W0 relT W env σ H Q ((denE Φ G (.lc2 x tg it k tg1 it1 k1 own vs1) env obs).bind fun x o => R.opt o (truD x)) := g
    refine LG.bnd earlyT S g fun x o1 v W1 H1 l1 S1 r1 g1 => ?_
    cases ht : truD x with
    | none => rw [ht] at g1; exact g1.elim
    | some k => rw [ht] at g1; exact ⟨k, tru_of S1 r1 ht, g1 _ W1 H1 .refl S1 rfl⟩
  | .sset a, X, sc, W0, e, c, tk, h => by
    refine PT.weak (pt_truth (soundE (.sset a) c tk h) (plainT_ok (by cases e <;> first | rfl | (simp [chkE] at h) | (rename_i op _ _; cases op <;> first | rfl | (simp [chkE] at h))))) ?_
    rintro σ H Q ⟨W, env, obs, S, g⟩
    have g : GP X.K CA W0 relT W env σ H Q ((denE Φ G (.sset a) env obs).bind fun x o => R.opt o (truD x)) := g
    refine LG.bnd earlyT S g fun x o1 v W1 H1 l1 S1 r1 g1 => ?_
    cases ht : truD x with
    | none => rw [ht] at g1; exact g1.elim
    | some k => rw [ht] at g1; exact ⟨k, tru_of S1 r1 ht, g1 _ W1 H1 .refl S1 rfl⟩
  | .sdic a, X, sc, W0, e, c, tk, h => by
    refine PT.weak (pt_truth (soundE (.sdic a) c tk h) (plainT_ok (by cases e <;> first | rfl | (simp [chkE] at h) | (rename_i op _ _; cases op <;> first | rfl | (simp [chkE] at h))))) ?_
    rintro σ H Q ⟨W, env, obs, S, g⟩
    have g : GP X.K CA W0 relT W env σ H Q ((denE Φ G (.sdic a) env obs).bind fun x o => R.opt o (truD x)) := g
    refine LG.bnd earlyT S g fun x o1 v W1 H1 l1 S1 r1 g1 => ?_
    cases ht : truD x with
    | none => rw [ht] at g1; exact g1.elim
    | some k => rw [ht] at g1; exact ⟨k, tru_of S1 r1 ht, g1 _ W1 H1 .refl S1 rfl⟩
theorem soundI : ∀ (m : It) {X : Cx} {sc : Scope} {W0 : WX} {tg e : Expr}, Ctx CA fs bs N G Φ n sc X → Takes X W0 → chkI fs bs N sc m tg e = true → PI X tg e (LG X.K CA W0 (relI X.K CA) (denI Φ G m))
  | .sq a, X, sc, W0, tg, e, c, tk, h => by
    simp only [chkI, Bool.and_eq_true] at h
    refine PI.weak (PI.or (pi_list (soundE a c tk h.1)) (pi_tup (soundE a c tk h.1))) ?_
    rintro σ H R ⟨W, env, obs, S, g⟩
    have g : GP X.K CA W0 (relI X.K CA) W env σ H R ((denE Φ G a env obs).bind fun x o => match x with | .lst ds => .ok ds o | .tup ds => .ok ds o | _ => .bad) := g
    have left : (∀ x o, denE Φ G a env obs = .ok x o → ∃ ds, x = .lst ds) → iList X.K (LE X.K CA W0 (denE Φ G a)) σ H R := fun hh => by
      refine LG.bnd' earlyI S g fun x o1 v W1 H1 he l1 S1 r1 g1 => ?_
      obtain ⟨ds, rfl⟩ := hh x o1 he
      obtain ⟨p, vs, rfl, hF, rs⟩ := Rep.to_lst r1
      exact ⟨p, rfl, ⟨vs, SqL.of (S1.fh _ _ hF)⟩, g1 _ W1 H1 .refl S1 (wlk_list hF rs)⟩
    have right : (∀ x o, denE Φ G a env obs = .ok x o → ∃ ds, x = .tup ds) → iTup X.K (LE X.K CA W0 (denE Φ G a)) σ H R := fun hh => by
      refine LG.bnd' earlyI S g fun x o1 v W1 H1 he l1 S1 r1 g1 => ?_
      obtain ⟨ds, rfl⟩ := hh x o1 he
      obtain ⟨p, vs, rfl, hF, rs⟩ := Rep.to_tup r1
      exact ⟨p, rfl, ⟨vs, SqT.mono hF S1.fh⟩, g1 _ W1 H1 .refl S1 (wlk_tup hF rs)⟩
    cases he : denE Φ G a env obs with
    | bad => exact .inl (left fun x o z => by rw [he] at z; cases z)
    | ex _ _ _ => exact .inl (left fun x o z => by rw [he] at z; cases z)
    | ok d o =>
      cases d with
      | lst ds => exact .inl (left fun x o z => by rw [he] at z; cases z; exact ⟨_, rfl⟩)
      | tup ds => exact .inr (right fun x o z => by rw [he] at z; cases z; exact ⟨_, rfl⟩)
      | _ => rw [he] at g; exact g.elim
  | .r1 a, X, sc, W0, tg, e, c, tk, h => by
    cases e with
    | Call f es' kws pos =>
      cases f with
      | Name x p =>
        cases kws with
        | cons _ _ => simp [chkI] at h
        | nil =>
          unfold chkI at h
          split at h
          · simp only [Bool.and_eq_true, Bool.not_eq_true', beq_iff_eq] at h
            obtain ⟨⟨⟨⟨rfl, h1⟩, h2⟩, h3⟩, h4⟩ := h
            refine PI.weak (pi_range1 (glB_ok c.hsc h1) (c.mo.bi _ (by simpa using h2)) (pa_cons (soundE a c tk h3) pa_nil (star_ok h4)) (star_ok h4)) ?_
            rintro σ H R ⟨W, env, obs, S, g⟩
            refine LG.bnd earlyI S g fun x o1 v W1 H1 l1 S1 r1 g1 => ?_
            cases x with
            | int k =>
              cases r1
              simp only at g1
              split at g1
              · rename_i hs
                have hs := smallI_ok hs
                exact ⟨k, rfl, hs.1, hs.2, g1 _ W1 H1 .refl S1 wlk_range⟩
              · exact g1.elim
            | _ => exact g1.elim
          · cases h
      | _ => simp [chkI] at h
    | _ => simp [chkI] at h
  | .r2 a b, X, sc, W0, tg, e, c, tk, h => by
    cases e with
    | Call f es' kws pos =>
      cases f with
      | Name x p =>
        cases kws with
        | cons _ _ => simp [chkI] at h
        | nil =>
          unfold chkI at h
          split at h
          · simp only [Bool.and_eq_true, Bool.not_eq_true', beq_iff_eq] at h
            obtain ⟨⟨⟨⟨⟨⟨rfl, h1⟩, h2⟩, h3⟩, h4⟩, h5⟩, h6⟩ := h
            refine PI.weak (pi_range2 (glB_ok c.hsc h1) (c.mo.bi _ (by simpa using h2)) (pa_cons (soundE a c tk h3) (pa_cons (soundE b c tk h5) pa_nil (star_ok h6)) (star_ok h4)) (by rw [star_ok h4, star_ok h6]; rfl) (star_ok h6)) ?_
            rintro σ H R ⟨W, env, obs, S, g⟩
            refine LG.bnd earlyI S g fun x o1 v W1 H1 l1 S1 r1 g1 => ?_
            refine LG.bnd earlyI S1 g1 fun y o2 u W2 H2 l2 S2 r2 g2 => ?_
            cases x with
            | int k =>
              cases y with
              | int j =>
                cases r1; cases r2
                simp only at g2
                split at g2
                · rename_i hs
                  rw [Bool.and_eq_true] at hs
                  have hs1 := smallI_ok hs.1
                  have hs2 := smallI_ok hs.2
                  exact ⟨k, j, rfl, ⟨hs1.1, hs1.2, hs2.1, hs2.2⟩, g2 _ W2 H2 .refl S2 wlk_range⟩
                · exact g2.elim
              | _ => exact g2.elim
            | _ => exact g2.elim
          · cases h
      | _ => simp [chkI] at h
    | _ => simp [chkI] at h
  | .r3 a b d, X, sc, W0, tg, e, c, tk, h => by
    cases e with
    | Call f es' kws pos =>
      cases f with
      | Name x p =>
        cases kws with
        | cons _ _ => simp [chkI] at h
        | nil =>
          unfold chkI at h
          split at h
          · simp only [Bool.and_eq_true, Bool.not_eq_true', beq_iff_eq] at h
            obtain ⟨⟨⟨⟨⟨⟨⟨⟨rfl, h1⟩, h2⟩, h3⟩, h4⟩, h5⟩, h6⟩, h7⟩, h8⟩ := h
            refine PI.weak (pi_range3 (glB_ok c.hsc h1) (c.mo.bi _ (by simpa using h2)) (pa_cons (soundE a c tk h3) (pa_cons (soundE b c tk h5) (pa_cons (soundE d c tk h7) pa_nil (star_ok h8)) (star_ok h6)) (star_ok h4)) (star_ok h4) (plain_of (by intro y hy; simp only [List.mem_cons, List.not_mem_nil, or_false] at hy; rcases hy with rfl | rfl; exact h6; exact h8))) ?_
            rintro σ H R ⟨W, env, obs, S, g⟩
            refine LG.bnd earlyI S g fun x o1 v W1 H1 l1 S1 r1 g1 => ?_
            refine LG.bnd earlyI S1 g1 fun y o2 u W2 H2 l2 S2 r2 g2 => ?_
            refine LG.bnd earlyI S2 g2 fun z o3 w W3 H3 l3 S3 r3 g3 => ?_
            cases x with
            | int k =>
              cases y with
              | int j =>
                cases z with
                | int m =>
                  cases r1; cases r2; cases r3
                  simp only at g3
                  split at g3
                  · rename_i hs
                    rw [Bool.and_eq_true] at hs
                    have hs2 := of_decide_eq_true hs.2
                    exact ⟨k, j, m, (Builtin.Range.rangeSize k j m).toNat, rfl, ⟨hs2.1, hs2.2.1, hs.1, by rw [Int.toNat_of_nonneg hs2.2.2]⟩, g3 _ W3 H3 .refl S3 wlk_rangeC⟩
                  · exact g3.elim
                | _ => exact g3.elim
              | _ => exact g3.elim
            | _ => exact g3.elim
          · cases h
      | _ => simp [chkI] at h
    | _ => simp [chkI] at h
  | .en a, X, sc, W0, tg, e, c, tk, h => by
    cases tg with
    | Tuple elts kk tpos =>
      cases e with
      | Call f es' kws pos =>
        cases f with
        | Name x p =>
          cases kws with
          | cons _ _ => simp [chkI] at h
          | nil =>
            unfold chkI at h
            split at h
            · simp only [Bool.and_eq_true, Bool.not_eq_true', beq_iff_eq] at h
              obtain ⟨⟨⟨⟨rfl, h1⟩, h2⟩, h3⟩, h4⟩ := h
              refine PI.weak (pi_enumT (glB_ok c.hsc h1) (c.mo.bi _ (by simpa using h2)) (pa_cons (soundE a c tk h3) pa_nil (star_ok h4)) (star_ok h4)) ?_
              rintro σ H R ⟨W, env, obs, S, g⟩
              refine LG.bnd earlyI S g fun x o1 v W1 H1 l1 S1 r1 g1 => ?_
              cases x with
              | lst ds =>
                obtain ⟨p, vs, rfl, hF, rs⟩ := Rep.to_lst r1
                exact ⟨p, rfl, .inl ⟨vs, SqL.of (S1.fh _ _ hF), g1 _ W1 H1 .refl S1 (wlk_enum hF rs)⟩⟩
              | tup ds =>
                obtain ⟨p, vs, rfl, hF, rs⟩ := Rep.to_tup r1
                exact ⟨p, rfl, .inr ⟨vs, SqT.mono hF S1.fh, g1 _ W1 H1 .refl S1 (wlk_enumT hF rs)⟩⟩
              | _ => exact g1.elim
            · cases h
        | _ => simp [chkI] at h
      | _ => simp [chkI] at h
    | _ => simp [chkI] at h
end
end
end Mp

set_option Elab.async false
set_option linter.all false
set_option maxRecDepth 100000
set_option maxHeartbeats 4000000
/-! Statements. -/
namespace Mp
open PySem PySem.Spec PyProof.Rows L2

/-! ### which statements -/
def lclB (sc : Scope) (x : Str) : Bool := match sc.names.lookup x with | some .local => true | _ => false
/-- the stores of a parallel assignment that the model swaps -/
def swP (ts vs : List Expr) (sc : Scope) : Option (Option (List Str)) :=
  if !(ts.length == 2 || ts.length == 3) || vs.length != ts.length then some none else
  if vs.any isStar then some none else
  let line := (ts.head?.map (·.pos.line)).getD 0
  let names := ts.filterMap fun
    | .Name id pos => if sc.names.lookup id == some .local && pos.line == line then some id else none
    | _ => none
  if names.length != ts.length || names.eraseDups.length != names.length then some none else
  if vs.all (foldedForSure 8) then some none else
  if vs.all (constantsAlone 8) then none else some (some names)
theorem swP_ok {ts vs : List Expr} {env : PySem.Env} {k k2 : Nat} {p p2 : Pos} {r : Option (List Str)} (hk : env.scope.kind = .function) (h : swP ts vs env.scope = some r) : swappedStores [.Tuple ts k p] (.Tuple vs k2 p2) env = pure r := by
  have hb : env.blockKind = .function := by
    unfold Env.blockKind
    rw [hk]; rfl
  unfold swP at h
  unfold swappedStores
  show (if (!(ts.length == 2 || ts.length == 3) || vs.length != ts.length || env.blockKind != .function) = true then _ else _) = _
  rw [hb]
  simp only [bne_self_eq_false, Bool.or_false]
  split at h
  · rename_i c
    cases h
    rw [if_pos c]
  · rename_i c
    rw [if_neg c]
    split at h
    · rename_i c2
      cases h
      exact if_pos c2
    · rename_i c2
      refine Eq.trans (if_neg c2) ?_
      simp only at h
      split at h
      · rename_i c3
        cases h
        exact if_pos c3
      · rename_i c3
        refine Eq.trans (if_neg c3) ?_
        split at h
        · rename_i c4
          cases h
          exact if_pos c4
        · rename_i c4
          refine Eq.trans (if_neg c4) ?_
          split at h
          · cases h
          · rename_i c5
            cases h
            exact if_neg c5
theorem swN_ok {tg e : Expr} {env : PySem.Env} (h : (match e with | .Tuple _ _ _ => false | _ => true) = true) : swappedStores [tg] e env = pure none := by
  cases e <;> first | (cases tg <;> rfl) | (simp at h)
/-- whether a comprehension is stored from within -/
def swB (sc : Scope) (x : Str) (px : Pos) : Expr → Bool
  | .ListComp _ _ s pos => lclB sc x && px.line == pos.line && !(s.names.any fun (n, k) => n == x && (k == .local || k == .cell))
  | .SetComp _ _ _ _ => true | .DictComp _ _ _ _ _ => true | _ => false
theorem sw_false {e : Expr} {x : Str} {px : Pos} {l : Nat} {env : PySem.Env} (hk : env.scope.kind = .function) (h : swB env.scope x px e = false) : swapsWith e (some (.Name x px)) l env = pure false := by
  cases e with
  | ListComp el gs s pos =>
    show (pure (env.blockKind == .function && env.kindOf x == some .local && px.line == pos.line && !(s.names.any fun (n, k) => n == x && (k == .local || k == .cell))) : Sem Bool) = pure false
    congr 1
    have hb : env.blockKind = .function := by unfold Env.blockKind; rw [hk]; rfl
    rw [hb]
    unfold swB lclB at h
    unfold Env.kindOf
    cases q : env.scope.names.lookup x with
    | none => rfl
    | some kd =>
      rw [q] at h
      cases kd <;> first | rfl | (simpa using h)
  | SetComp _ _ _ _ => simp [swB] at h
  | DictComp _ _ _ _ _ => simp [swB] at h
  | _ => rfl
theorem sw_none {e : Expr} {l : Nat} {env : PySem.Env} (h : isCompr e = false) : swapsWith e none l env = pure false := by
  cases e <;> first | rfl | (simp [isCompr] at h)
theorem sw_sub {e a b : Expr} {p : Pos} {l : Nat} {env : PySem.Env} : swapsWithSole [.Subscript a b p] e l env = pure false := by
  cases e <;> rfl
theorem sw_tup {e : Expr} {ts : List Expr} {k : Nat} {p : Pos} {l : Nat} {env : PySem.Env} : swapsWithSole [.Tuple ts k p] e l env = pure false := by
  cases e <;> rfl
def gFldQ (K : PySem.W.Frag) (to : TE) (f : Str) : TG := fun v σ H Q => to σ H fun y H1 => ∃ a C dx fs, y = .ref a ∧ H1 a = some (.ins C dx fs) ∧ L2.Cls K C ∧ NoAttr K C f ∧ fs.length < 1000 ∧ Q σ (upd H1 a (.ins C dx (L2.putF f v fs)))
/-- o.f as a target -/
theorem pg_fldQ {X : Cx} {o : Expr} {f : Str} {p : Pos} {to : TE} (ho : PE X o to) : PG X (.Attribute o f p) (gFldQ X.K to f) := by
  refine ⟨fun pins s σ H v u Q I r h => ?_⟩
  rw [arm_assign_Attribute]
  refine wpAny_bind (wpAny_holding (thn (ho.run pins s σ H _ I h) fun w s1 z => ?_))
  obtain ⟨y, H1, I1, rw1, a, C, dx, fs, rfl, ea, hc, hn, hl, q⟩ := z
  have ew : w = Value.ref a := rw1
  subst ew
  exact wpAny_bind (wpAny_standAt (wpAny_bind (wpAny_holding (setattr_ok I1 ea hc hn hl r fun s3 I3 => wpAny_release ⟨σ, _, I3, q⟩))))
def gFl (K : PySem.W.Frag) (to : TE) : List Str → TGs
  | [] => gNil
  | x :: xs => gCons (gFldQ K to x) (gFl K to xs)
theorem sw_att {e a : Expr} {x : Str} {p : Pos} {l : Nat} {env : PySem.Env} : swapsWith e (some (.Attribute a x p)) l env = pure false := by
  cases e <;> rfl
def idents : List Expr → List Str
  | [] => []
  | .Name x _ :: r => x :: idents r
  | _ :: r => idents r
section
variable (fs bs : List Str) (N : List Str)
def chkNms (sc : Scope) : List Nat → List Expr → Bool
  | [], [] => true
  | i :: is, .Name x _ :: es => decide (N[i]? = some x) && locB sc x && chkNms sc is es
  | _, _ => false
def chkF (sc : Scope) : Fr → Expr → Bool
  | .dsp es, .List es' _ => chkEs fs bs N sc es es'
  | .lc x tg it c own, e => chkE fs bs N sc (.lc x tg it c own) e
  | .lo a, .Call (.Name x _) es' [] _ => match es' with
    | [a'] => x == ("list" : Str) && glB sc x && bs.contains x && chkE fs bs N sc a a' && !isStar a'
    | _ => false
  | .cat a b, .BinOp a' .Add b' _ => chkE fs bs N sc a a' && chkE fs bs N sc b b'
  | _, _ => false
def chkPs (sc : Scope) : List (E ⊕ Fr) → List Expr → Bool
  | [], [] => true
  | .inl e :: r, e' :: r' => chkE fs bs N sc e e' && !isStar e' && chkPs sc r r'
  | .inr f :: r, e' :: r' => chkF fs bs N sc f e' && !isStar e' && chkPs sc r r'
  | _, _ => false
/-- targets that are fields of one object -/
def chkFl (sc : Scope) (c : Str) (a : E) : List Str → List Expr → Bool
  | [], [] => true
  | x :: xs, t :: ts => (match t with
    | .Attribute a' x' _ => x == x' && (bs.any fun b => decF b == some (c, x)) && chkE fs bs N sc a a'
    | _ => false) && chkFl sc c a xs ts
  | _, _ => false
def chkTgS (sc : Scope) (tg : Tg) (e : Expr) : Bool := chkTg sc N tg.sl tg e
def chkPar (sc : Scope) (ts : List Nat) (es : List (E ⊕ Fr)) (ts' es' : List Expr) : Bool :=
  chkNms N sc ts ts' && chkPs fs bs N sc es es' && decide (ts.length = es.length) && decide (ts.length ≤ 100) && match swP ts' es' sc with
    | some none => true
    | some (some ns) => decide (ns = idents ts') && (idents ts').all (lclB sc) && decide (ts.Nodup) && (ts.length == 2 || ts.length == 3)
    | none => false
def litB : D → Const → Bool
  | .non, .none => true
  | .bl b, .bool c => b == c
  | .int b, .int c => b == c
  | .str b, .str c => b == c
  | _, _ => false
def litV : D → V
  | .bl b => .bl b | .int i => .int i | .str x => .str x | _ => .non
theorem lit_ok {X : Cx} {d : D} {k : Const} {j : Nat} {pos : Pos} (h : litB d k = true) : PE X (.Constant k j pos) (tC (litV d)) ∧ ∀ (K : PySem.W.Frag) (W : Wd), W.rep K (litV d) d := by
  cases d with
  | non => cases k with
    | none => exact ⟨pe_non, fun _ _ => .non⟩
    | _ => cases h
  | bl b => cases k with
    | bool c =>
      obtain rfl : b = c := by simpa [litB] using h
      exact ⟨pe_bl, fun _ _ => .bl _⟩
    | _ => cases h
  | int b => cases k with
    | int c =>
      obtain rfl : b = c := by simpa [litB] using h
      exact ⟨pe_int, fun _ _ => .int _⟩
    | _ => cases h
  | str b => cases k with
    | str c =>
      obtain rfl : b = c := by simpa [litB] using h
      exact ⟨pe_str, fun _ _ => .str _⟩
    | _ => cases h
  | _ => cases h
/-- an except suite -/
def chkHd (N : List Str) (sc : Scope) : Hd → Option Str → List Stmt → Bool
  | .fld i j, some n, [.Assign [.Name y py] (.Attribute (.Name e p1) f p2) _] => decide (N[i]? = some n) && lclB sc n && e == n && !dbg n && !(n == ("__classdict__" : Str)) && f == ("place" : Str) && decide (N[j]? = some y) && locB sc y && !swB sc y py (.Attribute (.Name e p1) f p2)
  | .set j d, none, [.Assign [.Name y py] (.Constant k q p2) _] => decide (N[j]? = some y) && locB sc y && !swB sc y py (.Constant k q p2) && litB d k
  | .ret d, none, [.Return (some (.Constant k _ _)) _] => litB d k
  | _, _, _ => false
mutual
def chkS (sc : Scope) : S → Stmt → Bool
  | .rse c e, .Raise (some (.Call (.Name x _) es' [] _)) none _ => match es' with
    | [e'] => c == x && glB sc x && !dbg x && bs.contains (clsNm c) && chkE fs bs N sc e e' && !isStar e'
    | _ => false
  | .trye b c h, .Try b' hs' [] [] _ => match hs' with
    | [.ExceptHandler (some (.Name x _)) nm su _] => c == x && glB sc x && !dbg x && bs.contains (clsNm c) && chkSs sc b b' && chkHd N sc h nm su
    | _ => false
  | .set i e, .Assign tgs e' _ => match tgs with
    | [.Name x px] => decide (N[i]? = some x) && locB sc x && chkE fs bs N sc e e' && (!swB sc x px e' || (match e, e' with | .lc _ _ _ _ _, .ListComp _ _ _ _ => true | _, _ => false))
    | _ => false
  | .new i f, .Assign tgs e' _ => match tgs with
    | [.Name x px] => decide (N[i]? = some x) && locB sc x && chkF fs bs N sc f e' && (!swB sc x px e' || (match f, e' with | .lc _ _ _ _ _, .ListComp _ _ _ _ => true | _, _ => false))
    | _ => false
  | .tup ts e, .Assign tgs e' _ => match tgs with
    | [.Tuple ts' k p] => chkTgS N sc (.tp ts) (.Tuple ts' k p) && chkE fs bs N sc e e' && (match e' with | .Tuple _ _ _ => false | _ => true)
    | _ => false
  | .tgt tg e, .Assign tgs e' _ => match tgs with
    | [.Tuple ts' k p] => chkTgS N sc tg (.Tuple ts' k p) && chkE fs bs N sc e e' && (match e' with | .Tuple es' _ _ => (match swP ts' es' sc with | some none => true | _ => false) | _ => true)
    | _ => false
  | .par ts es, .Assign tgs e' _ => match tgs, e' with
    | [.Tuple ts' _ _], .Tuple es' _ _ => chkPar fs bs N sc ts es ts' es'
    | _, _ => false
  | .aug i op e, .AugAssign (.Name x _) op' e' _ => decide (N[i]? = some x) && locB sc x && decide (op = op') && chkE fs bs N sc e e'
  | .app i e, .Expr (.Call (.Attribute (.Name x _) m apos) es' [] cpos) _ => match es' with
    | [e'] => decide (N[i]? = some x) && visB sc x && !dbg x && !(x == ("__classdict__" : Str)) && m == ("append" : Str) && apos.endLine == cpos.line && chkE fs bs N sc e e' && !isStar e'
    | _ => false
  | .ext i e, .Expr (.Call (.Attribute (.Name x _) m apos) es' [] cpos) _ => match es' with
    | [e'] => decide (N[i]? = some x) && visB sc x && !dbg x && !(x == ("__classdict__" : Str)) && m == ("extend" : Str) && apos.endLine == cpos.line && chkE fs bs N sc e e' && !isStar e'
    | _ => false
  | .put i k e, .Assign tgs e' _ => match tgs with
    | [.Subscript (.Name x _) k' _] => decide (N[i]? = some x) && visB sc x && !dbg x && !(x == ("__classdict__" : Str)) && chkE fs bs N sc k k' && chkE fs bs N sc e e' && !isSlice k' && (match e' with | .Tuple _ _ _ => false | _ => true)
    | _ => false
  | .oput a k e, .Assign tgs e' _ => match tgs with
    | [.Subscript a' k' _] => chkE fs bs N sc a a' && chkE fs bs N sc k k' && chkE fs bs N sc e e' && !isSlice k' && (match e' with | .Tuple _ _ _ => false | _ => true)
    | _ => false
  | .fput c x a e, .Assign tgs e' _ => match tgs with
    | [.Attribute a' x' _] => x == x' && (bs.any fun b => decF b == some (c, x)) && chkE fs bs N sc a a' && chkE fs bs N sc e e'
    | _ => false
  | .tfld c a xs e, .Assign tgs e' _ => match tgs with
    | [.Tuple ts' _ _] => chkFl fs bs N sc c a xs ts' && chkE fs bs N sc e e' && (match e' with | .Tuple es' _ _ => (match swP ts' es' sc with | some none => true | _ => false) | _ => true)
    | _ => false
  | .faug c x op a e, .AugAssign t op' e' _ => match t with
    | .Attribute a' x' _ => decide (op = op') && x == x' && (bs.any fun b => decF b == some (c, x)) && chkE fs bs N sc a a' && chkE fs bs N sc e e'
    | _ => false
  | .ret e, .Return (some e') _ => chkE fs bs N sc e e'
  | .ret0, .Return none _ => true
  | .mv i, .Return (some (.Name x _)) _ => decide (N[i]? = some x) && visB sc x && !dbg x && !(x == ("__classdict__" : Str))
  | .ife c a b, .If c' a' b' _ => chkE fs bs N sc c c' && chkSs sc a a' && chkSs sc b b'
  | .whl c b, .While c' b' [] _ => chkE fs bs N sc c c' && chkSs sc b b'
  | .for_ tg it b, .For tg' it' b' [] _ => chkI fs bs N sc it tg' it' && chkTgS N sc tg tg' && chkSs sc b b'
  | .exp e, .Expr e' _ => chkE fs bs N sc e e' && !isCompr e'
  | .pass, .Pass _ => true
  | .brk, .Break _ => true
  | .cnt, .Continue _ => true
  | _, _ => false
  termination_by structural s => s
def chkSs (sc : Scope) : Ss → List Stmt → Bool
  | .nil, [] => true
  | .cons s r, s' :: r' => chkS sc s s' && chkSs sc r r'
  | .frz _ r, r' => chkSs sc r r'
  | _, _ => false
  termination_by structural s => s
end
end

/-! ### parts of a proof -/
section
variable {K : PySem.W.Frag} {CA : Str → Option Addr} {W0 : WX} {W W1 : Wd} {H H1 : Hp} {obs : Obs} {env : Env} {σ : L2.St} {α β : Type} {rel : Rl α β}
theorem LPost.mono {D : Ends} (l : W.leS W1) : ∀ {r : RS}, LPost K CA W0 W D r → LPost K CA W0 W1 D r
  | .nx e o, h => fun σ' W' H' l' S => h σ' W' H' (l.trans l') S
  | .rt d o, h => fun v W' H' l' S r => h v W' H' (l.trans l') S r
  | .bk e o, h => fun σ' W' H' l' S => h σ' W' H' (l.trans l') S
  | .ct e o, h => fun σ' W' H' l' S => h σ' W' H' (l.trans l') S
  | .ex c a e o, h => fun cls dd σ' W' H' l' S x => h cls dd σ' W' H' (l.trans l') S x
  | .bad, h => h
/-- an expression, then a statement's rest -/
theorem LS.bnd {D : Ends} {T : β → Hp → Prop} {fa : Env → Obs → R α} {k : α → Obs → RS} (S : SRel K CA W σ H env obs) (h : LPost K CA W0 W D ((fa env obs).st env k))
    (kk : ∀ a o1 v W1 H1, W.leE W1 H H1 → SRel K CA W1 σ H1 env o1 → rel W W1 H1 v a → LPost K CA W0 W1 D (k a o1) → T v H1) : LG K CA W0 rel fa σ H T := by
  refine ⟨W, env, obs, S, ?_⟩
  cases e : fa env obs with
  | ok a o => exact fun v W' H' l S' r => kk a o v W' H' l S' r (LPost.mono l.s (by rw [e] at h; exact h))
  | ex c a o => rw [e] at h; exact fun cls dd W' H' l S' x => h cls dd σ W' H' l.s S' x
  | bad => rw [e] at h; exact h
theorem SRel.put_own {p : Addr} {vs : List V} {ds : List D} {i : Nat} (S : SRel K CA W σ H env obs) (ra : W.ρ p = some .acc) (hp : H p = some (.lst vs)) (rs : W.reps K vs ds) :
    ∃ W2, W.leS W2 ∧ SRel K CA W2 (σ.set i (some (.ref p))) H (env.set i (.ol ds)) obs ∧ (∀ q r, q ≠ p → W.ρ q = some r → W2.ρ q = some r) := by
  have ls := leS_turn (r := .own i) ra rfl
  have S2 := S.turn (r := .own i) ra rfl (fun i s z => nomatch z) (fun u z => nomatch z) (fun u z => nomatch z)
  exact ⟨W.put p (.own i), ls, S2.set ⟨p, vs, rfl, Wd.put_same, hp, ls.d.reps rs⟩, fun q r hq e => by rw [Wd.put_ne hq]; exact e⟩
/-- parts stored at once -/
def PRel (K : PySem.W.Frag) (W' : Wd) (H' : Hp) : List V → List Sl → List Addr → Prop
  | [], [], [] => True
  | v :: vs, .v d :: ss, ps => W'.rep K v d ∧ PRel K W' H' vs ss ps
  | v :: vs, .ol ds :: ss, p :: ps => v = .ref p ∧ (∃ us, H' p = some (.lst us) ∧ W'.reps K us ds) ∧ PRel K W' H' vs ss ps
  | _, _, _ => False
abbrev relP (K : PySem.W.Frag) : Rl (List Sl) (List V) := fun W W' H' vs ss => ∃ ps : List Addr, ps.Nodup ∧ (∀ p ∈ ps, W.ρ p = none ∧ W'.ρ p = some .acc) ∧ PRel K W' H' vs ss ps
theorem earlyP : Rl.Early (relP K) := fun W W1 _ _ _ _ _ _ l ⟨ps, n, h, q⟩ => ⟨ps, n, fun p hp => ⟨(by
  cases z : W.ρ p with
  | none => rfl
  | some r => have := (h p hp).1; rw [l.r p r z] at this; cases this), (h p hp).2⟩, q⟩
theorem PRel.mono {W' W2 : Wd} {H' H2 : Hp} (dl : W'.dle W2) : ∀ {vs : List V} {ss : List Sl} {ps : List Addr}, (∀ p ∈ ps, H2 p = H' p) → PRel K W' H' vs ss ps → PRel K W2 H2 vs ss ps
  | [], [], [], _, _ => trivial
  | v :: vs, .v d :: ss, ps, hh, h => ⟨dl.rep h.1, PRel.mono dl hh h.2⟩
  | v :: vs, .ol ds :: ss, p :: ps, hh, h => ⟨h.1, (by obtain ⟨us, a, b⟩ := h.2.1; exact ⟨us, (hh p List.mem_cons_self).trans a, dl.reps b⟩), PRel.mono dl (fun q hq => hh q (List.mem_cons_of_mem _ hq)) h.2.2⟩
  | [], [], _ :: _, _, h => h.elim
  | [], _ :: _, _, _, h => h.elim
  | _ :: _, [], _, _, h => h.elim
  | _ :: _, .un :: _, _, _, h => h.elim
  | _ :: _, .od _ :: _, _, _, h => h.elim
  | _ :: _, .ol _ :: _, [], _, h => h.elim
theorem PRel.length : ∀ {vs : List V} {ss : List Sl} {ps : List Addr}, PRel K W H vs ss ps → vs.length = ss.length
  | [], [], [], _ => rfl
  | v :: vs, .v d :: ss, ps, h => congrArg (· + 1) (PRel.length h.2)
  | v :: vs, .ol ds :: ss, p :: ps, h => congrArg (· + 1) (PRel.length h.2.2)
  | [], [], _ :: _, h => h.elim
  | [], _ :: _, _, h => h.elim
  | _ :: _, [], _, h => h.elim
  | _ :: _, .un :: _, _, h => h.elim
  | _ :: _, .od _ :: _, _, h => h.elim
  | _ :: _, .ol _ :: _, [], h => h.elim
theorem SRel.setSl : ∀ {ts : List Nat} {vs : List V} {ss : List Sl} {ps : List Addr} {W : Wd} {σ : L2.St} {env env' : Env}, SRel K CA W σ H env obs → PRel K W H vs ss ps → ps.Nodup → (∀ p ∈ ps, W.ρ p = some .acc) → Mp.setSl ts ss env = some env' →
    ∃ W2, W.leS W2 ∧ SRel K CA W2 (setV ts vs σ) H env' obs
  | [], [], [], [], W, σ, env, env', S, _, _, _, e => by cases e; exact ⟨W, .refl, S⟩
  | i :: is, v :: vs, .v d :: ss, ps, W, σ, env, env', S, h, n, a, e => by
    show ∃ W2, W.leS W2 ∧ SRel K CA W2 (setV is vs (σ.set i (some v))) H env' obs
    exact SRel.setSl (S.set (i := i) (s := .v d) ⟨v, rfl, h.1⟩) h.2 n a e
  | i :: is, v :: vs, .ol ds :: ss, p :: ps, W, σ, env, env', S, h, n, a, e => by
    show ∃ W2, W.leS W2 ∧ SRel K CA W2 (setV is vs (σ.set i (some v))) H env' obs
    obtain ⟨rfl, ⟨us, hp, rs⟩, h3⟩ := h
    obtain ⟨n1, n2⟩ := List.nodup_cons.mp n
    obtain ⟨W1, l1, S1, k1⟩ := S.put_own (i := i) (a p List.mem_cons_self) hp rs
    obtain ⟨W2, l2, S2⟩ := SRel.setSl S1 (h3.mono l1.d fun _ _ => rfl) n2 (fun q hq => k1 q _ (fun z => n1 (z ▸ hq)) (a q (List.mem_cons_of_mem _ hq))) e
    exact ⟨W2, l1.trans l2, S2⟩
  | [], [], _ :: _, _, _, _, _, _, _, h, _, _, _ => h.elim
  | [], [], [], _ :: _, _, _, _, _, _, h, _, _, _ => h.elim
  | [], _ :: _, [], _, _, _, _, _, _, h, _, _, _ => h.elim
  | [], _ :: _, _ :: _, _, _, _, _, _, _, _, _, _, e => by cases e
  | _ :: _, [], [], _, _, _, _, _, _, _, _, _, e => by cases e
  | _ :: _, _ :: _, [], _, _, _, _, _, _, h, _, _, _ => h.elim
  | _ :: _, [], _ :: _, _, _, _, _, _, _, h, _, _, _ => h.elim
  | _ :: _, _ :: _, .un :: _, _, _, _, _, _, _, h, _, _, _ => h.elim
  | _ :: _, _ :: _, .od _ :: _, _, _, _, _, _, _, h, _, _, _ => h.elim
  | _ :: _, _ :: _, .ol _ :: _, [], _, _, _, _, _, h, _, _, _ => h.elim
/-- a list of one's own is frozen -/
theorem SRel.freeze {i : Nat} {ds : List D} (S : SRel K CA W σ H env obs) (he : env[i]? = some (.ol ds)) : ∃ W2, W.leS W2 ∧ SRel K CA W2 σ H (env.set i (.v (.lst ds))) obs := by
  obtain ⟨p, vs, hσ, hr, hp, rs⟩ := S.getL he
  have hi : i < env.length := (List.getElem?_eq_some_iff.mp he).1
  have S0 : SRel K CA W σ H (env.set i .un) obs := S.weak (by simp [S.len]) fun j s e => by
    by_cases hj : i = j
    · subst hj; rw [List.getElem?_set_self hi] at e; exact .inl (Option.some.inj e).symm
    · rw [List.getElem?_set_ne hj] at e; exact .inr ⟨e, rfl⟩
  have S1 : SRel K CA (W.put p (.fro (.lst vs))) σ H (env.set i .un) obs := by
    refine S0.turn hr rfl (fun j s e z => ?_) (fun u e => by injection e with e; rw [← e]; exact hp) (fun u e => nomatch e)
    have hj : i = j := by injection e
    subst hj
    rw [List.getElem?_set_self hi] at z
    exact .inr (Option.some.inj z).symm
  have ls := leS_turn (r := .fro (.lst vs)) hr rfl
  refine ⟨_, ls, ?_⟩
  have := S1.set (i := i) (v := .ref p) (s := .v (.lst ds)) ⟨_, rfl, .lst (Wd.F_of.mpr Wd.put_same) (ls.d.reps rs)⟩
  rw [List.set_set] at this
  have e : σ.set i (some (.ref p)) = σ := by
    apply List.ext_getElem?
    intro j
    by_cases hj : i = j
    · subst hj; rw [List.getElem?_set_self (by rw [S.len]; exact hi), hσ]
    · rw [List.getElem?_set_ne hj]
  rw [e] at this; exact this
end
theorem aug_ok {X : Cx} {CA : Str → Option Addr} : ∀ op : Operator, ∃ r, OpR X (inplaceOp op) r ∧ Op2 X.K CA r (augD op) := by
  intro op
  cases op with
  | Add =>
    refine ⟨_, iop_add, fun W σ H env obs x y a b d Q S rx ry e q => ?_⟩
    cases a with
    | int a => cases b with
      | int b =>
        simp only [augD, Option.some.injEq] at e
        subst e; cases rx; cases ry
        exact ⟨_, _, rfl, rfl, q _ W H .refl S (.int _)⟩
      | _ => simp [augD] at e
    | _ => simp [augD] at e
  | Sub =>
    refine ⟨_, iop_sub, fun W σ H env obs x y a b d Q S rx ry e q => ?_⟩
    cases a with
    | int a => cases b with
      | int b =>
        simp only [augD, Option.some.injEq] at e
        subst e; cases rx; cases ry
        exact ⟨_, _, rfl, rfl, q _ W H .refl S (.int _)⟩
      | _ => simp [augD] at e
    | _ => simp [augD] at e
  | Mult =>
    refine ⟨_, iop_mul, fun W σ H env obs x y a b d Q S rx ry e q => ?_⟩
    cases a with
    | int a => cases b with
      | int b =>
        simp only [augD] at e
        split at e
        · rename_i h; cases e; cases rx; cases ry
          refine ⟨_, _, rfl, rfl, ?_, q _ W H .refl S (.int _)⟩
          unfold mulOk at h
          rw [Bool.or_eq_true] at h
          rcases h with h | h
          · exact .inl (natAbs_lt (of_decide_eq_true h))
          · exact .inr (natAbs_lt (of_decide_eq_true h))
        · cases e
      | _ => simp [augD] at e
    | _ => simp [augD] at e
  | FloorDiv =>
    refine ⟨_, iop_fdiv, fun W σ H env obs x y a b d Q S rx ry e q => ?_⟩
    cases a with
    | int a => cases b with
      | int b =>
        simp only [augD] at e
        split at e
        · rename_i h; cases e; cases rx; cases ry
          exact ⟨_, _, rfl, rfl, (by have := of_decide_eq_true h; exact this), q _ W H .refl S (.int _)⟩
        · cases e
      | _ => simp [augD] at e
    | _ => simp [augD] at e
  | Mod =>
    refine ⟨_, iop_mod, fun W σ H env obs x y a b d Q S rx ry e q => ?_⟩
    cases a with
    | int a => cases b with
      | int b =>
        simp only [augD] at e
        split at e
        · rename_i h; cases e; cases rx; cases ry
          exact ⟨_, _, rfl, rfl, (by have := of_decide_eq_true h; exact this), q _ W H .refl S (.int _)⟩
        · cases e
      | _ => simp [augD] at e
    | _ => simp [augD] at e
  | _ => exact ⟨fun _ _ _ _ => False, fun _ _ _ _ _ _ _ _ _ _ _ _ h => h.elim, fun _ _ _ _ _ _ _ _ _ _ _ _ _ _ e => by simp [augD] at e⟩
end Mp

set_option Elab.async false
set_option linter.all false
set_option maxRecDepth 100000
set_option maxHeartbeats 4000000
/-! THE THEOREM for statements. -/
namespace Mp
open PySem PySem.Spec PyProof.Rows L2

/-- a run, then another one, told from the first world -/
theorem LG.bnd1 {K : PySem.W.Frag} {CA : Str → Option Addr} {W0 : WX} {W W1 : Wd} {H H1 : Hp} {obs : Obs} {env : Env} {σ : L2.St} {α β γ δ : Type} {rel : Rl α β} {rel2 : Rl γ δ} {Q : δ → Hp → Prop} {T : β → Hp → Prop} {fa : Env → Obs → R α} {k : α → Obs → R γ} (l : W.leE W1 H H1) (S : SRel K CA W1 σ H1 env obs) (h : GP K CA W0 rel2 W env σ H Q ((fa env obs).bind k))
    (kk : ∀ a o1 v W2 H2, W1.leE W2 H1 H2 → SRel K CA W2 σ H2 env o1 → rel W1 W2 H2 v a → GP K CA W0 rel2 W env σ H Q (k a o1) → T v H2) : LG K CA W0 rel fa σ H1 T := by
  refine ⟨W1, env, obs, S, ?_⟩
  cases e : fa env obs with
  | ok a o => exact fun v W' H' l' S' r => kk a o v W' H' l' S' r (by rw [e] at h; exact h)
  | ex c a o => rw [e] at h; exact fun cls dd W' H' l' S' x => h cls dd W' H' (l.trans l') S' x
  | bad => rw [e] at h; exact h
section
variable {CA : Str → Option Addr} {fs bs N : List Str} {G : Str → Option D} {Φ : Str → List D → Obs → R D} {n : Nat}
structure CtxS (CA : Str → Option Addr) (fs bs N : List Str) (G : Str → Option D) (Φ : Str → List D → Obs → R D) (n : Nat) (sc : Scope) (X : Cx) : Prop where
  c : Ctx CA fs bs N G Φ n sc X
  own : PassesOwn (model X.prog X.w) X.A X.env X.xe
  fn : ∀ x, X.fn x = true
  kind : X.env.scope.kind = .function
  stk : X.stack = X.env :: X.outer
  fr : X.env.frame = some X.env.locals
/-- a comprehension's parts -/
theorem lc_parts {X : Cx} {sc : Scope} {W0 : WX} {x : E} {tg : Tg} {it : It} {k : Eo} {own : List (Str × Nat)} {e : Expr} (c : Ctx CA fs bs N G Φ n sc X) (tk : Takes X W0) (h : chkE fs bs N sc (.lc x tg it k own) e = true) :
    ∃ x' tg' it' ifs' scope pos, e = .ListComp x' [⟨tg', it', ifs', 0⟩] scope pos ∧ PI X tg' it' (LG X.K CA W0 (relI X.K CA) (denI Φ G it)) ∧ BlkOk X.N X.env.scope scope own ∧
      (∀ (s : Shared) (H : Hp) (C : Addr) (cl : List (Str × Addr)) (fp : List Addr), PG (X.blk s H scope (compEnvC scope cl C X.env) fp) tg' (gTg X.K tg)) ∧
      (∀ (s : Shared) (H : Hp) (C : Addr) (cl : List (Str × Addr)) (fp : List Addr), PTs (X.blk s H scope (compEnvC scope cl C X.env) fp) ifs' (LT X.K CA (fun _ _ _ _ => False) (denC Φ G k))) ∧
      (∀ (s : Shared) (H : Hp) (C : Addr) (cl : List (Str × Addr)) (fp : List Addr), PE (X.blk s H scope (compEnvC scope cl C X.env) fp) x' (LE X.K CA (fun _ _ _ _ => False) (denE Φ G x))) ∧
      (∀ z, foldedSetIterable it' X.env z = pure z) ∧ (∀ i ∈ tg.sl, i ∈ own.map (·.2)) := by
  cases e with
  | ListComp x' gs scope pos =>
    unfold chkE at h
    split at h
    · simp only [Bool.and_eq_true] at h
      obtain ⟨⟨⟨⟨h1, h2⟩, h3⟩, h4⟩, h5⟩ := h
      have cb : ∀ (s : Shared) (H : Hp) (C : Addr) (cl : List (Str × Addr)) (fp : List Addr), Ctx CA fs bs N G Φ n (relS scope sc) (X.blk s H scope (compEnvC scope cl C X.env) fp) := fun s H C cl fp =>
        ⟨c.hN, c.nd, by rw [← c.hsc]; rfl, c.calm, c.room, c.mo⟩
      refine ⟨_, _, _, _, _, _, rfl, soundI it c tk h2, by rw [c.hN, c.hsc]; exact blkOk_by h1, fun s H C cl fp => ?_, fun s H C cl fp => soundC k (cb s H C cl fp) takes0 h4, fun s H C cl fp => soundE x (cb s H C cl fp) takes0 h5, folded_ok (chkI_set h2), chkTg_own h3⟩
      exact (pg_of (X := X.blk s H scope (compEnvC scope cl C X.env) fp) c.hN c.nd c.calm (fun y hy => by
        unfold locB at hy
        split at hy
        · rename_i e
          have : (relS scope X.env.scope).names.lookup y = some .local := lookup_relS_keep (by decide) e
          exact ⟨.inl this, .inr this⟩
        · rename_i e
          have : (relS scope X.env.scope).names.lookup y = some .cell := lookup_relS_keep (by decide) e
          exact ⟨.inr this, .inl (by show (scope.names.lookup y == some .cell) = true; rw [e]; rfl)⟩
        · cases hy) h3).1
    · cases h
  | _ => simp [chkE] at h
theorem soundF {X : Cx} {sc : Scope} {W0 : WX} {f : Fr} {e : Expr} (c : Ctx CA fs bs N G Φ n sc X) (tk : Takes X W0) (h : chkF fs bs N sc f e = true) : PE X e (LF X.K CA W0 (denF Φ G f)) := by
  cases f with
  | dsp es =>
    cases e with
    | List es' pos =>
      refine PE.weak (pe_lst (soundEs es c tk (by simpa [chkF] using h))) ?_
      rintro σ H Q ⟨W, env, obs, S, g⟩
      refine LG.bnd earlyF S g fun ds o1 vs W1 H1 l1 S1 r1 g1 => ?_
      split at g1
      · rename_i hl
        have r1 : W1.reps X.K vs ds := r1
        exact ⟨by rw [r1.length]; exact hl, GP.new S1 g1 r1⟩
      · exact g1.elim
    | _ => simp [chkF] at h
  | lc x tg it k own =>
    obtain ⟨x', tg', it', ifs', scope, pos, rfl, p1, p2, p3, p4, p5, p6, p7⟩ := lc_parts c tk (by simpa [chkF] using h)
    exact PE.weak (pe_lc c.calm (by rw [c.hN]; exact c.nd) p1 p2 p3 p4 p5 p6) fun σ H Q g => lc_of p7 g
  | cat a b =>
    cases e with
    | BinOp a' op b' pos =>
      cases op <;> first | (simp [chkF] at h; done) | skip
      simp only [chkF, Bool.and_eq_true] at h
      refine PE.weak (pe_op op_cat (soundE a c tk h.1) (soundE b c tk h.2)) ?_
      rintro σ H Q ⟨W, env, obs, S, g⟩
      refine LG.bnd earlyF S g fun x o1 v W1 H1 l1 S1 r1 g1 => ?_
      refine LG.bnd earlyF S1 g1 fun y o2 u W2 H2 l2 S2 r2 g2 => ?_
      cases x with
      | lst p =>
        cases y with
        | lst q =>
          have g2 : GP X.K CA W0 (relF X.K) W2 env σ H2 Q (if p.length + q.length ≤ sizeLine then .ok (p ++ q) o2 else .bad) := g2
          split at g2
          · rename_i hl
            obtain ⟨a1, vs, rfl, h1, rs⟩ := S2.lst (l2.d.rep r1)
            obtain ⟨a2, us, rfl, h2, ru⟩ := S2.lst r2
            exact ⟨a1, a2, vs, us, rfl, rfl, h1, h2, by rw [rs.length, ru.length]; exact hl, GP.new S2 g2 (rs.append ru)⟩
          · exact g2.elim
        | _ => exact g2.elim
      | _ => exact g2.elim
    | _ => simp [chkF] at h
  | lo a =>
    cases e with
    | Call g es' kws pos =>
      cases g with
      | Name x p =>
        cases kws with
        | cons _ _ => simp [chkF] at h
        | nil =>
          cases es' with
          | nil => simp [chkF] at h
          | cons a' er =>
            cases er with
            | cons _ _ => simp [chkF] at h
            | nil =>
              simp only [chkF, Bool.and_eq_true, Bool.not_eq_true', beq_iff_eq] at h
              obtain ⟨⟨⟨⟨rfl, h1⟩, h2⟩, h3⟩, h4⟩ := h
              obtain ⟨b1, b2, b3⟩ := boot_T "list" (by decide)
              refine PE.weak (pe_callTy call_list_of (glB_ok c.hsc h1) (c.mo.bi _ (by simpa using h2)) b1 (pa_cons (soundE a c tk h3) pa_nil (star_ok h4)) b2 b3 (star_ok h4) rfl) ?_
              rintro σ H Q ⟨W, env, obs, S, g⟩
              refine LG.bnd earlyF S g fun x o1 v W1 H1 l1 S1 r1 g1 => ?_
              cases x with
              | lst ds =>
                obtain ⟨q, vs, rfl, hp, rs⟩ := S1.lst r1
                exact ⟨q, vs, rfl, .inl (SqL.of hp), GP.new S1 g1 rs⟩
              | tup ds =>
                obtain ⟨q, vs, rfl, hp, rs⟩ := S1.tup r1
                exact ⟨q, vs, rfl, .inr hp, GP.new S1 g1 rs⟩
              | _ => exact g1.elim
      | _ => simp [chkF] at h
    | _ => simp [chkF] at h
theorem soundPs {X : Cx} {sc : Scope} {W0 : WX} (c : Ctx CA fs bs N G Φ n sc X) (tk : Takes X W0) : ∀ {es : List (E ⊕ Fr)} {es' : List Expr}, chkPs fs bs N sc es es' = true → PA X es' (LG X.K CA W0 (relP X.K) (denPs Φ G es))
  | [], [], _ => PA.weak pa_nil fun σ H Q ⟨W, env, obs, S, g⟩ => g [] W H .refl S ⟨[], List.nodup_nil, (fun _ h => by cases h), trivial⟩
  | [], _ :: _, h => by simp [chkPs] at h
  | .inl _ :: _, [], h => by simp [chkPs] at h
  | .inr _ :: _, [], h => by simp [chkPs] at h
  | .inl a :: r, a' :: r', h => by
    simp only [chkPs, Bool.and_eq_true, Bool.not_eq_true'] at h
    refine PA.weak (pa_cons (soundE a c tk h.1.1) (soundPs c tk h.2) (star_ok h.1.2)) ?_
    rintro σ H Q ⟨W, env, obs, S, g⟩
    refine LG.bnd1 .refl S g fun x o1 v W1 H1 l1 S1 r1 g1 => ?_
    refine LG.bnd1 l1 S1 g1 fun xs o2 vs W2 H2 l2 S2 r2 g2 => ?_
    obtain ⟨ps, nd, hp, q⟩ := r2
    refine g2 _ W2 H2 (l1.trans l2) S2 ⟨ps, nd, fun p hq => ⟨?_, (hp p hq).2⟩, l2.d.rep r1, q⟩
    cases z : W.ρ p with
    | none => rfl
    | some r => have := (hp p hq).1; rw [l1.r p r z] at this; cases this
  | .inr f :: r, a' :: r', h => by
    simp only [chkPs, Bool.and_eq_true, Bool.not_eq_true'] at h
    refine PA.weak (pa_cons (soundF c tk h.1.1) (soundPs c tk h.2) (star_ok h.1.2)) ?_
    rintro σ H Q ⟨W, env, obs, S, g⟩
    refine LG.bnd1 .refl S g fun x o1 v W1 H1 l1 S1 r1 g1 => ?_
    refine LG.bnd1 l1 S1 g1 fun xs o2 vs W2 H2 l2 S2 r2 g2 => ?_
    obtain ⟨ps, nd, hp, q⟩ := r2
    obtain ⟨p, us, rfl, n0, ra, hh, rs⟩ := r1
    refine g2 _ W2 H2 (l1.trans l2) S2 ⟨p :: ps, List.nodup_cons.mpr ⟨fun z => ?_, nd⟩, fun p' hq => ?_, rfl, ⟨us, (l2.o p _ ra rfl).trans hh, l2.d.reps rs⟩, q⟩
    · have := (hp p z).1; rw [ra] at this; cases this
    · rcases List.mem_cons.mp hq with rfl | hq
      · exact ⟨n0, l2.r _ _ ra⟩
      · refine ⟨?_, (hp p' hq).2⟩
        cases z : W.ρ p' with
        | none => rfl
        | some r => have := (hp p' hq).1; rw [l1.r p' r z] at this; cases this
theorem pgs_nms {X : Cx} {sc : Scope} (hN : X.N = N) (nd : N.Nodup) (hsc : ∀ x, locB sc x = true → Loc X.env.scope x ∧ (X.fn x = true ∨ X.env.scope.names.lookup x = some .local)) : ∀ {ts : List Nat} {es : List Expr}, chkNms N sc ts es = true →
    PGs X es (gNms ts) ∧ (assignEach es X.env).length = ts.length ∧ (assignEach es X.env).findIdx? (·.1) = none
  | [], [], _ => ⟨pgs_nil, rfl, rfl⟩
  | [], _ :: _, h => by simp [chkNms] at h
  | _ :: _, [], h => by simp [chkNms] at h
  | t :: ts, e :: es, h => by
    cases e with
    | Name x pos =>
      simp only [chkNms, Bool.and_eq_true, decide_eq_true_eq] at h
      obtain ⟨⟨a, b⟩, d⟩ := h
      obtain ⟨h1, h3, h4⟩ := pgs_nms hN nd hsc d
      obtain ⟨l1, l2⟩ := hsc x b
      refine ⟨pgs_cons (pg_name (by rw [hN]; exact nd) (by rw [hN]; exact a) l1 l2) h1 (by rfl), ?_, ?_⟩
      · show (assignEach es X.env).length + 1 = _
        rw [h3]; rfl
      · show List.findIdx? (·.1) ((false, assign (.Name x pos) X.env) :: assignEach es X.env) = none
        rw [List.findIdx?_cons]
        simp [h4]
    | _ => simp [chkNms] at h
theorem CtxS.loc {X : Cx} {sc : Scope} (c : CtxS CA fs bs N G Φ n sc X) : ∀ x, locB sc x = true → Loc X.env.scope x ∧ (X.fn x = true ∨ X.env.scope.names.lookup x = some .local) := fun x h => ⟨by rw [c.c.hsc]; exact locB_ok h, .inl (c.fn x)⟩
theorem len2 {α : Type} {l : List α} (h : l.length = 2) : ∃ a b, l = [a, b] := by
  cases l with
  | nil => cases h
  | cons a l => cases l with
    | nil => cases h
    | cons b l => cases l with
      | nil => exact ⟨a, b, rfl⟩
      | cons _ _ => simp at h
theorem len3 {α : Type} {l : List α} (h : l.length = 3) : ∃ a b c, l = [a, b, c] := by
  cases l with
  | nil => cases h
  | cons a l =>
    obtain ⟨b, c, rfl⟩ := len2 (l := l) (by simpa using h)
    exact ⟨a, b, c, rfl⟩
theorem chkPs_len {sc : Scope} : ∀ {es : List (E ⊕ Fr)} {es' : List Expr}, chkPs fs bs N sc es es' = true → es'.length = es.length
  | [], [], _ => rfl
  | [], _ :: _, h => by simp [chkPs] at h
  | .inl _ :: _, [], h => by simp [chkPs] at h
  | .inr _ :: _, [], h => by simp [chkPs] at h
  | .inl a :: r, a' :: r', h => by
    simp only [chkPs, Bool.and_eq_true] at h
    exact congrArg (· + 1) (chkPs_len h.2)
  | .inr a :: r, a' :: r', h => by
    simp only [chkPs, Bool.and_eq_true] at h
    exact congrArg (· + 1) (chkPs_len h.2)
theorem nms1 {sc : Scope} {i : Nat} {is : List Nat} {es : List Expr} (h : chkNms N sc (i :: is) es = true) : ∃ x px r, es = .Name x px :: r ∧ chkNms N sc is r = true := by
  cases es with
  | nil => simp [chkNms] at h
  | cons e r => cases e with
    | Name x px =>
      simp only [chkNms, Bool.and_eq_true] at h
      exact ⟨x, px, r, rfl, h.2⟩
    | _ => simp [chkNms] at h
theorem nms0 {sc : Scope} {es : List Expr} (h : chkNms N sc [] es = true) : es = [] := by
  cases es with
  | nil => rfl
  | cons _ _ => simp [chkNms] at h
theorem nms2 {sc : Scope} {i j : Nat} {es : List Expr} (h : chkNms N sc [i, j] es = true) : ∃ x px y py, es = [.Name x px, .Name y py] := by
  obtain ⟨x, px, r, rfl, h'⟩ := nms1 h
  obtain ⟨y, py, r', rfl, h''⟩ := nms1 h'
  rw [nms0 h'']
  exact ⟨x, px, y, py, rfl⟩
theorem nms3 {sc : Scope} {i j l : Nat} {es : List Expr} (h : chkNms N sc [i, j, l] es = true) : ∃ x px y py z pz, es = [.Name x px, .Name y py, .Name z pz] := by
  obtain ⟨x, px, r, rfl, h'⟩ := nms1 h
  obtain ⟨y, py, z, pz, rfl⟩ := nms2 h'
  exact ⟨x, px, y, py, z, pz, rfl⟩
theorem sound_par {X : Cx} {sc : Scope} {W0 : WX} {ts : List Nat} {es : List (E ⊕ Fr)} {ts' es' : List Expr} {k k2 : Nat} {p p2 pos : Pos} {M : Nat} (c : CtxS CA fs bs N G Φ n sc X) (tk : Takes X W0) (h : chkPar fs bs N sc ts es ts' es' = true) :
    PS X (.Assign [.Tuple ts' k p] (.Tuple es' k2 p2) pos) (LS X.K CA W0 (denS Φ G M (.par ts es))) := by
  simp only [chkPar, Bool.and_eq_true, decide_eq_true_eq] at h
  obtain ⟨⟨⟨⟨h1, h2⟩, h3⟩, h4⟩, h5⟩ := h
  obtain ⟨q1, q2, q3⟩ := pgs_nms c.c.hN c.c.nd c.loc h1
  have hps := soundPs c.c tk h2
  -- what is asked behind the parts
  have fin : ∀ {W : Wd} {σ : L2.St} {H H' : Hp} {env : Env} {o : Obs} {xs : List Sl} {vs : List V} {D : Ends} {W1 : Wd}, SRel X.K CA W1 σ H env o → relP X.K W W1 H vs xs → (∀ q u, H q = some u → H' q = some u) → LPost X.K CA W0 W1 D (match setSl ts xs env with | some env => .nx env o | none => .bad) → vs.length = ts.length ∧ D.nx (setV ts vs σ) H' := by
    rintro W σ H H' env o xs vs D W1 S1 ⟨ps, nd, hp, q⟩ hh g
    cases he : setSl ts xs env with
    | none => rw [he] at g; exact g.elim
    | some env' =>
      rw [he] at g
      have S1' := S1.heap hh
      have q' : PRel X.K W1 H' vs xs ps := q.mono .refl fun p hp' => by
        obtain ⟨u, hu⟩ := S1.h.live p _ (hp p hp').2
        rw [hu, hh p u hu]
      obtain ⟨W2, l2, S2⟩ := S1'.setSl q' nd (fun p hp' => (hp p hp').2) he
      refine ⟨?_, g _ W2 H' l2 S2⟩
      rw [q.length]
      clear q q' S1 S1' g hp nd hh l2 S2
      revert he
      generalize ts = l
      intro he
      induction l generalizing xs env with
      | nil => cases xs with
        | nil => rfl
        | cons _ _ => cases he
      | cons i l ih => cases xs with
        | nil => cases he
        | cons s xs => exact congrArg (· + 1) (ih he)
  split at h5
  · rename_i hsw
    refine PS.weak (ps_asg (pe_tup hps) (pg_tup c.c.calm q1 q2 q3) sw_tup (swP_ok c.kind (by rw [c.c.hsc]; exact hsw)) rfl) ?_
    rintro D σ H ⟨W, env, obs, S, g⟩
    refine LS.bnd (rel := relP X.K) S g fun xs o1 vs W1 H1 l1 S1 r1 g1 => ?_
    have hl := (fin S1 r1 (H' := H1) (fun _ _ z => z) g1).1
    refine ⟨by rw [hl]; exact Nat.le_trans h4 (by decide), fun q hq => ?_⟩
    have := (fin S1 r1 (H' := upd H1 q (.tup vs)) (fun a u z => by rw [upd_ne (ne_of_none z hq)]; exact z) g1).2
    exact ⟨q, vs, rfl, SqT.of upd_same, hl, gNms_of hl this⟩
  · rename_i ns hsw
    simp only [Bool.and_eq_true, decide_eq_true_eq, Bool.or_eq_true, beq_iff_eq, List.all_eq_true] at h5
    obtain ⟨⟨⟨hns, hlc⟩, hnd⟩, hlen⟩ := h5
    have hsw' := swP_ok (k := k) (k2 := k2) (p := p) (p2 := p2) c.kind (by rw [c.c.hsc]; exact hsw)
    have lcl : ∀ x, lclB sc x = true → X.env.scope.names.lookup x = some .local := fun x hx => by
      rw [c.c.hsc]
      unfold lclB at hx
      split at hx
      · rename_i e; exact e
      · cases hx
    have hel : es'.length = ts.length := (chkPs_len h2).trans h3.symm
    rcases hlen with hlen | hlen
    · obtain ⟨i, j, rfl⟩ := len2 hlen
      obtain ⟨a, b, rfl⟩ := len2 (hel.trans hlen)
      obtain ⟨x, px, y, py, rfl⟩ := nms2 h1
      simp only [chkNms, Bool.and_eq_true, decide_eq_true_eq, Bool.and_true] at h1
      obtain ⟨⟨a1, a2⟩, ⟨b1, b2⟩⟩ := h1
      rw [hns] at hsw'
      have hij : i ≠ j := by simpa using hnd
      refine PS.weak (ps_par c.c.calm (by rw [c.c.hN]; exact c.c.nd) (by rw [c.c.hN]; exact a1) (by rw [c.c.hN]; exact b1) hij (lcl x (hlc x (by simp [idents]))) (lcl y (hlc y (by simp [idents]))) hps hsw' sw_tup) ?_
      rintro D σ H ⟨W, env, obs, S, g⟩
      refine LS.bnd (rel := relP X.K) S g fun xs o1 vs W1 H1 l1 S1 r1 g1 => ?_
      obtain ⟨hl, q⟩ := fin S1 r1 (H' := H1) (fun _ _ z => z) g1
      obtain ⟨v, w, rfl⟩ := len2 hl
      exact ⟨v, w, rfl, q⟩
    · obtain ⟨i, j, l, rfl⟩ := len3 hlen
      obtain ⟨a, b, d, rfl⟩ := len3 (hel.trans hlen)
      obtain ⟨x, px, y, py, z, pz, rfl⟩ := nms3 h1
      simp only [chkNms, Bool.and_eq_true, decide_eq_true_eq, Bool.and_true] at h1
      obtain ⟨⟨a1, a2⟩, ⟨b1, b2⟩, ⟨c1, c2⟩⟩ := h1
      rw [hns] at hsw'
      have hnd' : (i ≠ j ∧ i ≠ l) ∧ j ≠ l := by simpa using hnd
      refine PS.weak (ps_par3 c.c.calm (by rw [c.c.hN]; exact c.c.nd) (by rw [c.c.hN]; exact a1) (by rw [c.c.hN]; exact b1) (by rw [c.c.hN]; exact c1) hnd'.1.1 hnd'.1.2 hnd'.2 (lcl x (hlc x (by simp [idents]))) (lcl y (hlc y (by simp [idents]))) (lcl z (hlc z (by simp [idents]))) hps hsw' sw_tup) ?_
      rintro D σ H ⟨W, env, obs, S, g⟩
      refine LS.bnd (rel := relP X.K) S g fun xs o1 vs W1 H1 l1 S1 r1 g1 => ?_
      obtain ⟨hl, q⟩ := fin S1 r1 (H' := H1) (fun _ _ z => z) g1
      obtain ⟨u, v, w, rfl⟩ := len3 hl
      exact ⟨u, v, w, rfl, q⟩
  · cases h5
/-- raise c(e) -/
theorem sound_rse {X : Cx} {sc : Scope} {W0 : WX} {cn x : Str} {e : E} {e' : Expr} {p cpos pos : Pos} {M : Nat} (c : CtxS CA fs bs N G Φ n sc X) (tk : Takes X W0) (h0 : (cn == x) = true) (h1 : glB sc x = true) (h2 : (!dbg x) = true) (h3 : bs.contains (clsNm cn) = true) (h5 : (!isStar e') = true)
    (he : PE X e' (LE X.K CA W0 (denE Φ G e))) : PS X (.Raise (some (.Call (.Name x p) [e'] [] cpos)) none pos) (LS X.K CA W0 (denS Φ G M (.rse cn e))) := by
  obtain rfl := eq_of_beq h0
  simp only [Bool.not_eq_true'] at h2 h5
  obtain ⟨C, fI, fd, hCA, hmg, oc', hini, hty, hfn, hbd, _, _, _⟩ := (c.c.mo.cl _ (by simpa using h3)).ex
  have hst := star_ok (es := []) (env := X.env) h5
  have mk := pmk_oex (X := X) (p := p) (pos := cpos) (ds := []) (dvs := []) oc' hini hty hfn (c.c.room.mono c.c.mo.two) hbd .nil (fun pins σ H s e s' I q => by obtain ⟨_, _, _, _, _, _, _, _, _, _, _, _, z⟩ := q; exact z.elim) (glB_ok c.c.hsc h1) hmg (pa_cons he pa_nil hst) h2 hst rfl
  refine PS.weak (ps_raise c.c.calm tk mk) ?_
  rintro D σ H ⟨W, env, obs, S, g⟩
  refine one_of (X := X) ?_
  refine LS.bnd (rel := relE X.K) S g fun x o1 v W1 H1 l1 S1 r1 g1 => ?_
  cases x with
  | int i =>
    simp only [raiseD] at g1
    split at g1
    · rename_i hi
      cases r1
      refine ⟨by simp, fun a hna => ⟨a, i, rfl, hi, upd_same, fun dx hdx hne => ⟨rfl, dx, [(("place" : Str), .int i)], upd_same, ?_, ?_, ?_⟩⟩⟩
      · rw [upd_ne hne, upd_same]
      · rw [upd_ne hne] at hdx; exact hdx
      · have hd1 : H1 dx = none := by rw [upd_ne hne] at hdx; exact hdx
        have e3 : upd (del (upd (upd (upd H1 a (exo a C none)) dx (exd dx [(("place" : Str), .int i)])) a (exo a C (some dx))) a) dx (.xd [(("place" : Str), .int i)]) = upd H1 dx (.xd [(("place" : Str), .int i)]) := by
          funext b
          by_cases hb : b = dx
          · rw [hb, upd_same, upd_same]
          · rw [upd_ne hb, upd_ne hb]
            by_cases ha : b = a
            · rw [ha, del_same, hna]
            · rw [del_ne ha, upd_ne ha, upd_ne hb, upd_ne ha]
        rw [e3]
        refine g1 _ _ _ W1 _ .refl (S1.heap fun p o z => ?_) ⟨C, dx, .int i, hCA, rfl, rfl, upd_same, .int i⟩
        rw [upd_ne (ne_of_none z hd1)]; exact z
    · exact g1.elim
  | _ => exact g1.elim
theorem XR.cls {K : PySem.W.Frag} {CA : Str → Option Addr} {W1 : Wd} {cls : Value} {dd : Option Addr} {H' : Hp} {a : D} {cn : Str} {C : Addr} (hCA : CA cn = some C) (x : XR K CA W1 H' cls dd cn a) : cls = .ref C := by
  cases a with
  | non => obtain ⟨C', e1, e2⟩ := x; rw [hCA] at e1; cases e1; exact e2
  | _ => obtain ⟨C', _, _, e1, e2, _⟩ := x; rw [hCA] at e1; cases e1; exact e2
/-- a try's body, by what the suite does with the exceptions of it -/
theorem try_of {K : PySem.W.Frag} {CA : Str → Option Addr} {W0 W : WX} {T : Ends} {σ : L2.St} {H : Hp} {cn : Str} {hd : Hd} {f : Env → Obs → RS} (g : LS K CA W0 (fun env o => tryD cn hd (f env o)) T σ H)
    (k : ∀ {W1 : Wd} {cls : Value} {dd : Option Addr} {σ' : L2.St} {H' : Hp} {a : D} {env' : Env} {o : Obs}, SRel K CA W1 σ' H' env' o → XR K CA W1 H' cls dd cn a → LPost K CA W0 W1 T (denHd hd a env' o) → W cls dd σ' H') : LS K CA W f T σ H := by
  obtain ⟨Wd0, env, obs, S, g⟩ := g
  refine ⟨Wd0, env, obs, S, ?_⟩
  replace g : LPost K CA W0 Wd0 T (tryD cn hd (f env obs)) := g
  cases hb : f env obs with
  | ex c' a e o =>
    rw [hb] at g
    simp only [tryD] at g
    split at g
    · rename_i hc
      subst hc
      exact fun cls dd σ' W' H' l S' x => k S' x (LPost.mono l g)
    · exact g.elim
  | nx e o => rw [hb] at g; exact g
  | rt d o => rw [hb] at g; exact g
  | bk e o => rw [hb] at g; exact g
  | ct e o => rw [hb] at g; exact g
  | bad => rw [hb] at g; exact g
/-- try: .. except c [as ..]: a suite that is told -/
theorem sound_try {X : Cx} {sc : Scope} {W0 : WX} {cn x : Str} {b : Ss} {hd : Hd} {b' su : List Stmt} {nm : Option Str} {np pos' pos : Pos} {M : Nat} (c : CtxS CA fs bs N G Φ n sc X) (tk : Takes X W0) (h0 : (cn == x) = true) (h1 : glB sc x = true) (h2 : (!dbg x) = true) (h3 : bs.contains (clsNm cn) = true) (h5 : chkHd N sc hd nm su = true)
    (hbody : ∀ (W : WX) (pn : List (Addr × Obj)) (xe : Value → Shared → Prop), Takes (X.tr pn xe) W → PassesOwn (model X.prog X.w) X.A X.env xe → PSs (X.tr pn xe) b' (LS X.K CA W (denSs Φ G M b))) :
    PS X (.Try b' [.ExceptHandler (some (.Name x np)) nm su pos'] [] [] pos) (LS X.K CA W0 (denS Φ G M (.trye b cn hd))) := by
  obtain rfl := eq_of_beq h0
  simp only [Bool.not_eq_true'] at h2
  obtain ⟨C, fI, fd, hCA, hmg, oc', hini, hty, hfn, hbd, hxf, hpl, hexm⟩ := (c.c.mo.cl _ (by simpa using h3)).ex
  have hnm : Names X cn (.ref C) := ⟨glB_ok c.c.hsc h1, h2, .inl hmg⟩
  have nd : X.N.Nodup := by rw [c.c.hN]; exact c.c.nd
  unfold chkHd at h5
  split at h5
  · rename_i i j n' y py e' p1 f p2 pos2
    simp only [Bool.and_eq_true, Bool.not_eq_true', beq_iff_eq, decide_eq_true_eq] at h5
    obtain ⟨⟨⟨⟨⟨⟨⟨⟨q1, q2⟩, rfl⟩, q3⟩, q4⟩, rfl⟩, q5⟩, q6⟩, q7⟩ := h5
    have lcl : X.env.scope.names.lookup e' = some .local := by
      rw [c.c.hsc]; unfold lclB at q2
      split at q2
      · rename_i z; exact z
      · cases q2
    obtain ⟨l1, l2⟩ := c.loc y q6
    rw [← c.c.hN] at q1 q5
    refine PS.weak (ps_try_as (i := i) (tb := fun W => LS X.K CA W (denSs Φ G M b)) (ts := fun a cls dd => tAsg (tXf a cls dd C "place" (tVar i)) (gName j)) (Wout := W0) c.stk c.fr nd q1 lcl hnm tk hbody fun a oe cls dd pn hz hf => ?_) ?_
    · exact pss_one (ps_set (X := X.suite a ((a, oe) :: pn)) nd q5 l1 (pe_xf hxf hpl hz hf (pe_var (i := i) q1 (.inl lcl) q3 q4)) (sw_false c.kind (by rw [c.c.hsc]; exact q7)) l2)
    · intro D σ H g
      refine try_of g fun {W1 cls dd σ' H' a env' o} S' x k => ?_
      obtain rfl := XR.cls hCA x
      refine ⟨true, hexm, fun _ p hp => ?_, fun z => nomatch z⟩
      cases a with
      | int k' =>
        obtain ⟨C', d1, v, e1, e2, e3, e4, e5⟩ := x
        cases e5
        simp only [denHd] at k
        split at k
        · rename_i hlt
          have hlt' : i < σ'.length := by rw [S'.len]; exact hlt
          refine ⟨.ref p, by rw [List.getElem?_set_self hlt'], rfl, rfl, d1, _, .int k', e3, e4, by simp [List.lookup], ?_⟩
          refine k _ W1 H' .refl (((S'.set (i := i) (v := .ref p) (s := .un) trivial).set (i := j) (v := .int k') (s := .v (.int k')) ⟨_, rfl, .int k'⟩).weak (by simp [S'.len]) fun m s hs => ?_)
          by_cases hm : i = m
          · subst hm
            rw [List.getElem?_set_self (by simpa using hlt)] at hs
            cases hs; exact .inl rfl
          · rw [List.getElem?_set_ne hm] at hs
            exact .inr ⟨hs, by rw [List.getElem?_set_ne hm]⟩
        · exact k.elim
      | _ => exact k.elim
  · rename_i j d y py k' q p2 pos2
    simp only [Bool.and_eq_true, Bool.not_eq_true', decide_eq_true_eq] at h5
    obtain ⟨⟨⟨q1, q2⟩, q3⟩, q4⟩ := h5
    obtain ⟨l1, l2⟩ := c.loc y q2
    rw [← c.c.hN] at q1
    have hv := fun K W => (lit_ok (X := X) (j := q) (pos := p2) q4).2 K W
    refine PS.weak (ps_try_only (tb := fun W => LS X.K CA W (denSs Φ G M b)) (ts := fun a cls dd => tAsg (tC (litV d)) (gName j)) (Wout := W0) c.stk c.fr hnm tk hbody fun a oe cls dd pn hz hf => ?_) ?_
    · exact pss_one (ps_set (X := X.suite a ((a, oe) :: pn)) nd q1 l1 (lit_ok (j := q) (pos := p2) q4).1 (sw_false c.kind (by rw [c.c.hsc]; exact q3)) l2)
    · intro D σ H g
      refine try_of g fun {W1 cls dd σ' H' a env' o} S' x k => ?_
      obtain rfl := XR.cls hCA x
      exact ⟨true, hexm, fun _ p hp => k _ W1 H' .refl (S'.set ⟨_, rfl, hv _ _⟩), fun z => nomatch z⟩
  · rename_i d k' q p2 pos2
    have hv := fun K W => (lit_ok (X := X) (j := q) (pos := p2) h5).2 K W
    refine PS.weak (ps_try_only (tb := fun W => LS X.K CA W (denSs Φ G M b)) (ts := fun a cls dd => tRet (tC (litV d))) (Wout := W0) c.stk c.fr hnm tk hbody fun a oe cls dd pn hz hf => ?_) ?_
    · exact pss_one (ps_ret (X := X.suite a ((a, oe) :: pn)) (lit_ok (j := q) (pos := p2) h5).1)
    · intro D σ H g
      refine try_of g fun {W1 cls dd σ' H' a env' o} S' x k => ?_
      obtain rfl := XR.cls hCA x
      exact ⟨true, hexm, fun _ p hp => k _ W1 H' .refl S'.h (hv _ _), fun z => nomatch z⟩
  · cases h5
end
end Mp

set_option Elab.async false
set_option linter.all false
set_option maxRecDepth 100000
set_option maxHeartbeats 4000000
/-! THE THEOREM for statements, blocks, defs and programs. -/
namespace Mp
open PySem PySem.Spec PyProof.Rows L2

section
variable {CA : Str → Option Addr} {fs bs N : List Str} {G : Str → Option D} {Φ : Str → List D → Obs → R D} {n M : Nat}
/-- the slot of a name that is read -/
theorem slot_ok {X : Cx} {sc : Scope} {i : Nat} {x : Str} {pos : Pos} (c : Ctx CA fs bs N G Φ n sc X) (h : (decide (N[i]? = some x) && visB sc x && !dbg x && !(x == ("__classdict__" : Str))) = true) : PE X (.Name x pos) (tVar i) := by
  simp only [Bool.and_eq_true, decide_eq_true_eq, Bool.not_eq_true'] at h
  obtain ⟨⟨⟨h1, h2⟩, h3⟩, h4⟩ := h
  exact pe_var (i := i) (by rw [c.hN]; exact h1) (by rw [c.hsc]; exact visB_ok h2) h3 h4
theorem asg_sub {a b : Expr} {pos : Pos} {env : PySem.Env} (h : isSlice b = false) : ∀ v, assign (.Subscript a b pos) env v = (do
      let ov ← holding [v] (eval a env)
      let iv ← holding [v, ov] (eval b env)
      standAt pos
      holding [v, ov, iv] (setItem ov iv v)
      release [v, ov, iv] []) := fun v => by
  cases b <;> first | rfl | (simp [isSlice] at h)
theorem assign_fl {env : PySem.Env} : ∀ {ts : List Expr}, (∀ t ∈ ts, ∃ a x p, t = .Attribute a x p) → (assignEach ts env).length = ts.length ∧ (assignEach ts env).findIdx? (·.1) = none
  | [], _ => ⟨rfl, rfl⟩
  | t :: ts, h => by
    obtain ⟨a, x, p, rfl⟩ := h t List.mem_cons_self
    obtain ⟨h1, h2⟩ := assign_fl (env := env) fun t ht => h t (List.mem_cons_of_mem _ ht)
    have e : assignEach (.Attribute a x p :: ts) env = (false, assign (.Attribute a x p) env) :: assignEach ts env := rfl
    rw [e]
    exact ⟨by simp [h1], by rw [List.findIdx?_cons]; simp [h2]⟩
theorem chkFl_att {fs bs N : List Str} {sc : Scope} {cn : Str} {a : E} : ∀ {xs : List Str} {ts : List Expr}, chkFl fs bs N sc cn a xs ts = true → ts.length = xs.length ∧ (∀ t ∈ ts, ∃ a x p, t = .Attribute a x p)
  | [], [], _ => ⟨rfl, fun _ h => nomatch h⟩
  | [], _ :: _, h => by simp [chkFl] at h
  | _ :: _, [], h => by simp [chkFl] at h
  | x :: xs, t :: ts, h => by
    unfold chkFl at h
    rw [Bool.and_eq_true] at h
    obtain ⟨h1, h2⟩ := h
    obtain ⟨i1, i2⟩ := chkFl_att h2
    refine ⟨by simp [i1], fun u hu => ?_⟩
    rcases List.mem_cons.mp hu with rfl | hu
    · cases u with
      | Attribute a' x' p => exact ⟨_, _, _, rfl⟩
      | _ => cases h1
    · exact i2 u hu
theorem chkFl_mem {fs bs N : List Str} {sc : Scope} {cn : Str} {a : E} : ∀ {xs : List Str} {ts : List Expr}, chkFl fs bs N sc cn a xs ts = true → ∀ x ∈ xs, ∃ b ∈ bs, decF b = some (cn, x)
  | [], _, _, x, h => nomatch h
  | _ :: _, [], h, _, _ => by simp [chkFl] at h
  | y :: xs, t :: ts, h, x, hx => by
    unfold chkFl at h
    rw [Bool.and_eq_true] at h
    obtain ⟨h1, h2⟩ := h
    rcases List.mem_cons.mp hx with rfl | hx
    · cases t with
      | Attribute a' x' p =>
        simp only [Bool.and_eq_true, beq_iff_eq, List.any_eq_true] at h1
        obtain ⟨⟨_, b, hb, hd⟩, _⟩ := h1
        exact ⟨b, hb, hd⟩
      | _ => cases h1
    · exact chkFl_mem h2 x hx
theorem pgs_fl0 {X : Cx} {fs bs N : List Str} {sc : Scope} {cn : Str} {a : E} {to : TE} (ha : ∀ {e : Expr}, chkE fs bs N sc a e = true → PE X e to) : ∀ {xs : List Str} {ts : List Expr}, chkFl fs bs N sc cn a xs ts = true → PGs X ts (gFl X.K to xs)
  | [], [], _ => pgs_nil
  | [], _ :: _, h => by simp [chkFl] at h
  | _ :: _, [], h => by simp [chkFl] at h
  | x :: xs, t :: ts, h => by
    unfold chkFl at h
    rw [Bool.and_eq_true] at h
    obtain ⟨h1, h2⟩ := h
    cases t with
    | Attribute a' x' p =>
      simp only [Bool.and_eq_true, beq_iff_eq] at h1
      obtain ⟨⟨rfl, _⟩, h3⟩ := h1
      exact pgs_cons (pg_fldQ (ha h3)) (pgs_fl0 ha h2) rfl
    | _ => cases h1
theorem pgs_fl {X : Cx} {fs bs N : List Str} {sc : Scope} {cn : Str} {a : E} {to : TE} (ha : ∀ {e : Expr}, chkE fs bs N sc a e = true → PE X e to) {xs : List Str} {ts : List Expr} (h : chkFl fs bs N sc cn a xs ts = true) :
    PGs X ts (gFl X.K to xs) ∧ (assignEach ts X.env).length = xs.length ∧ (assignEach ts X.env).findIdx? (·.1) = none := by
  obtain ⟨l, at_⟩ := chkFl_att h
  obtain ⟨h1, h2⟩ := assign_fl (env := X.env) at_
  exact ⟨pgs_fl0 ha h, by rw [h1, l], h2⟩
theorem fl_of {X : Cx} {CA : Str → Option Addr} {W0 : WX} {fs bs : List Str} {G : Str → Option D} {Φ : Str → List D → Obs → R D} {n : Nat} {P : Program} {w : World} {mg : Str → Option Value} {base : Heap} {cn : Str} {a : E} {D : Ends} {env : Env} {σ : L2.St} (mo : Mo X.K CA P w mg base fs bs G Φ n) :
    ∀ {xs : List Str} {ds : List Mp.D} {vs : List V} {W : Wd} {H : Hp} {o : Obs}, (∀ x ∈ xs, ∃ b ∈ bs, decF b = some (cn, x)) → SRel X.K CA W σ H env o → W.reps X.K vs ds → LPost X.K CA W0 W D (fputsD cn (denE Φ G a) xs ds env o) → gFl X.K (LE X.K CA W0 (denE Φ G a)) xs vs σ H D.nx
  | [], [], _, W, H, o, _, S, r, g => by
    cases r
    exact ⟨rfl, g σ W H .refl S⟩
  | [], _ :: _, _, _, _, _, _, _, _, g => g.elim
  | _ :: _, [], _, _, _, _, _, _, _, g => g.elim
  | x :: xs, d :: ds, vs, W, H, o, hm, S, r, g => by
    obtain ⟨v, vs', rfl, rv, rr⟩ : ∃ v vs', vs = v :: vs' ∧ W.rep X.K v d ∧ W.reps X.K vs' ds := by
      have r : W.reps X.K vs (d :: ds) := r
      cases r with | cons rv rr => exact ⟨_, _, rfl, rv, rr⟩
    obtain ⟨b, hb, hdec⟩ := hm x List.mem_cons_self
    obtain ⟨C, hC, hcl, hno⟩ := mo.fi b hb cn x hdec
    refine ⟨v, vs', rfl, ?_⟩
    refine LS.bnd (rel := relE X.K) S g fun y o1 u W1 H1 l1 S1 r1 g1 => ?_
    cases hi : insO o1 cn y with
    | none => simp only [hi] at g1; exact g1.elim
    | some fs' =>
      simp only [hi] at g1
      by_cases hlt : fs'.length < 1000
      · rw [if_pos hlt] at g1
        obtain ⟨m, rfl, e3⟩ := insO_some hi
        obtain ⟨p, C', dx, us, rfl, hA, hC', hp, hdx, hown, hk, hr⟩ := S1.oins r1 e3
        rw [hC] at hC'; cases hC'
        obtain ⟨k1, k2⟩ := put_rel (x := x) (l1.d.rep rv) hk hr
        have ne : dx ≠ p := fun z => by rw [z, hp] at hown; cases hown
        obtain ⟨S4, l4⟩ := S1.owrite (o := .ins C dx (L2.putF x v us)) (ob := .ins cn (putD x d fs')) hA (List.getElem?_eq_some_iff.mp e3).1 ⟨C, dx, _, hC, upd_same, hdx, by rw [upd_ne ne]; exact hown, k1, k2⟩
        have hlen : us.length = fs'.length := by have := congrArg List.length hk; simpa using this
        exact ⟨p, C, dx, us, rfl, hp, hcl, hno, by rw [hlen]; exact hlt, fl_of mo (fun x hx => hm x (List.mem_cons_of_mem _ hx)) S4 (l1.d.reps rr) g1⟩
      · rw [if_neg hlt] at g1; exact g1.elim
mutual
theorem soundS : ∀ (m : S) {X : Cx} {sc : Scope} {W0 : WX} {st : Stmt}, CtxS CA fs bs N G Φ n sc X → Takes X W0 → chkS fs bs N sc m st = true → PS X st (LS X.K CA W0 (denS Φ G M m))
  | .rse cn e, X, sc, W0, st, c, tk, h => by
    cases st with
    | Raise oe oc pos =>
      cases oe with
      | none => simp [chkS] at h
      | some e0 =>
        cases e0 with
        | Call f es' kws cpos =>
          cases f with
          | Name x p =>
            cases kws with
            | cons _ _ => simp [chkS] at h
            | nil =>
              cases oc with
              | some _ => simp [chkS] at h
              | none =>
                unfold chkS at h
                split at h
                · simp only [Bool.and_eq_true] at h
                  exact sound_rse c tk h.1.1.1.1.1 h.1.1.1.1.2 h.1.1.1.2 h.1.1.2 h.2 (soundE e c.c tk h.1.2)
                · cases h
          | _ => simp [chkS] at h
        | _ => simp [chkS] at h
    | _ => simp [chkS] at h
  | .trye b cn hd, X, sc, W0, st, c, tk, h => by
    cases st with
    | Try b' hs' oe fb pos =>
      cases oe with
      | cons _ _ => simp [chkS] at h
      | nil =>
        cases fb with
        | cons _ _ => simp [chkS] at h
        | nil =>
          unfold chkS at h
          split at h
          · simp only [Bool.and_eq_true] at h
            refine sound_try (M := M) c tk h.1.1.1.1.1 h.1.1.1.1.2 h.1.1.1.2 h.1.1.2 h.2 fun W pn xe tk' po => ?_
            exact soundSs b (X := X.tr pn xe) ⟨⟨c.c.hN, c.c.nd, c.c.hsc, c.c.calm, c.c.room, c.c.mo⟩, po, c.fn, c.kind, c.stk, c.fr⟩ tk' h.1.2
          · cases h
    | _ => simp [chkS] at h
  | .set i e, X, sc, W0, st, c, tk, h => by
    cases st with
    | Assign tgs e' pos =>
      unfold chkS at h
      split at h
      · rename_i x px
        simp only [Bool.and_eq_true, decide_eq_true_eq, Bool.or_eq_true, Bool.not_eq_true'] at h
        obtain ⟨⟨⟨h1, h2⟩, h3⟩, h4⟩ := h
        obtain ⟨l1, l2⟩ := c.loc x h2
        rcases h4 with h4 | h4
        · refine PS.weak (ps_set (by rw [c.c.hN]; exact c.c.nd) (by rw [c.c.hN]; exact h1) l1 (soundE e c.c tk h3) (sw_false c.kind (by rw [c.c.hsc]; exact h4)) l2) ?_
          rintro D σ H ⟨W, env, obs, S, g⟩
          exact LS.bnd (rel := relE X.K) S g fun a o1 v W1 H1 l1 S1 r1 g1 => g1 _ W1 H1 .refl (S1.set ⟨v, rfl, r1⟩)
        · cases hsw : swB sc x px e' with
          | false =>
            refine PS.weak (ps_set (by rw [c.c.hN]; exact c.c.nd) (by rw [c.c.hN]; exact h1) l1 (soundE e c.c tk h3) (sw_false c.kind (by rw [c.c.hsc]; exact hsw)) l2) ?_
            rintro D σ H ⟨W, env, obs, S, g⟩
            exact LS.bnd (rel := relE X.K) S g fun a o1 v W1 H1 l1 S1 r1 g1 => g1 _ W1 H1 .refl (S1.set ⟨v, rfl, r1⟩)
          | true =>
            cases e with
            | lc x0 tg it k own =>
              obtain ⟨x', tg', it', ifs', scope, p2, rfl, p1, p3, p4, p5, p6, p7, p8⟩ := lc_parts c.c tk h3
              simp only [swB, Bool.and_eq_true, Bool.not_eq_true'] at hsw
              obtain ⟨⟨s1, s2⟩, s3⟩ := hsw
              have hl : X.env.scope.names.lookup x = some .local := by
                rw [c.c.hsc]; unfold lclB at s1
                split at s1
                · rename_i z; exact z
                · cases s1
              refine PS.weak (ps_setLc c.c.calm (by rw [c.c.hN]; exact c.c.nd) (by rw [c.c.hN]; exact h1) hl (sw_true c.kind hl s2 s3) p1 p3 p4 p5 p6 p7) ?_
              rintro D σ H ⟨W, env, obs, S, g⟩
              refine lc_of p8 (lf_of ?_)
              exact LS.bnd (rel := relE X.K) (fa := denE Φ G (.lc x0 tg it k own)) S g fun a o1 v W1 H1 l1 S1 r1 g1 => g1 _ W1 H1 .refl (S1.set ⟨v, rfl, r1⟩)
            | _ => cases h4
      · cases h
    | _ => simp [chkS] at h
  | .new i f, X, sc, W0, st, c, tk, h => by
    cases st with
    | Assign tgs e' pos =>
      unfold chkS at h
      split at h
      · rename_i x px
        simp only [Bool.and_eq_true, decide_eq_true_eq, Bool.or_eq_true, Bool.not_eq_true'] at h
        obtain ⟨⟨⟨h1, h2⟩, h3⟩, h4⟩ := h
        obtain ⟨l1, l2⟩ := c.loc x h2
        have plain : swB sc x px e' = false → PS X (.Assign [.Name x px] e' pos) (LS X.K CA W0 (denS Φ G M (.new i f))) := fun h4 => by
          refine PS.weak (ps_set (by rw [c.c.hN]; exact c.c.nd) (by rw [c.c.hN]; exact h1) l1 (soundF c.c tk h3) (sw_false c.kind (by rw [c.c.hsc]; exact h4)) l2) ?_
          rintro D σ H ⟨W, env, obs, S, g⟩
          refine LS.bnd (rel := relF X.K) S g fun a o1 v W1 H1 l1 S1 r1 g1 => ?_
          obtain ⟨p, vs, rfl, n0, ra, hp, rs⟩ := r1
          obtain ⟨W2, l2, S2, _⟩ := S1.put_own (i := i) ra hp rs
          exact g1 _ W2 H1 l2 S2
        rcases h4 with h4 | h4
        · exact plain h4
        · cases hsw : swB sc x px e' with
          | false => exact plain hsw
          | true =>
            cases f with
            | lc x0 tg it k own =>
              obtain ⟨x', tg', it', ifs', scope, p2, rfl, p1, p3, p4, p5, p6, p7, p8⟩ := lc_parts c.c tk (by simpa [chkF] using h3)
              simp only [swB, Bool.and_eq_true, Bool.not_eq_true'] at hsw
              obtain ⟨⟨s1, s2⟩, s3⟩ := hsw
              have hl : X.env.scope.names.lookup x = some .local := by
                rw [c.c.hsc]; unfold lclB at s1
                split at s1
                · rename_i z; exact z
                · cases s1
              refine PS.weak (ps_setLc c.c.calm (by rw [c.c.hN]; exact c.c.nd) (by rw [c.c.hN]; exact h1) hl (sw_true c.kind hl s2 s3) p1 p3 p4 p5 p6 p7) ?_
              rintro D σ H ⟨W, env, obs, S, g⟩
              refine lc_of p8 ?_
              refine LS.bnd (rel := relF X.K) (fa := denF Φ G (.lc x0 tg it k own)) S g fun a o1 v W1 H1 l1 S1 r1 g1 => ?_
              obtain ⟨p, vs, rfl, n0, ra, hp, rs⟩ := r1
              obtain ⟨W2, l2, S2, _⟩ := S1.put_own (i := i) ra hp rs
              exact g1 _ W2 H1 l2 S2
            | _ => cases h4
      · cases h
    | _ => simp [chkS] at h
  | .tup ts e, X, sc, W0, st, c, tk, h => by
    cases st with
    | Assign tgs e' pos =>
      unfold chkS at h
      split at h
      · rename_i ts' k p
        simp only [Bool.and_eq_true] at h
        obtain ⟨⟨h1, h2⟩, h3⟩ := h
        obtain ⟨hg, _⟩ := pg_of c.c.hN c.c.nd c.c.calm c.loc h1
        refine PS.weak (ps_asg (soundE e c.c tk h2) hg sw_tup (swN_ok h3) rfl) ?_
        rintro D σ H ⟨W, env, obs, S, g⟩
        refine LS.bnd (rel := relE X.K) S g fun a o1 v W1 H1 l1 S1 r1 g1 => ?_
        cases he : setTg (.tp ts) a env with
        | none => rw [he] at g1; exact g1.elim
        | some env' =>
          rw [he] at g1
          exact tg_of (tg := .tp ts) S1 r1 he fun σ' S2 _ => g1 _ W1 H1 .refl S2
      · cases h
    | _ => simp [chkS] at h
  | .tgt tg e, X, sc, W0, st, c, tk, h => by
    cases st with
    | Assign tgs e' pos =>
      unfold chkS at h
      split at h
      · rename_i ts' k p
        simp only [Bool.and_eq_true] at h
        obtain ⟨⟨h1, h2⟩, h3⟩ := h
        obtain ⟨hg, _⟩ := pg_of c.c.hN c.c.nd c.c.calm c.loc h1
        have hsw : swappedStores [.Tuple ts' k p] e' X.env = pure none := by
          cases e' with
          | Tuple es' k2 p2 =>
            simp only at h3
            split at h3
            · rename_i hs
              exact swP_ok c.kind (by rw [c.c.hsc]; exact hs)
            · cases h3
          | _ => exact swN_ok rfl
        refine PS.weak (ps_asg (soundE e c.c tk h2) hg sw_tup hsw rfl) ?_
        rintro D σ H ⟨W, env, obs, S, g⟩
        refine LS.bnd (rel := relE X.K) S g fun a o1 v W1 H1 l1 S1 r1 g1 => ?_
        cases he : setTg tg a env with
        | none => rw [he] at g1; exact g1.elim
        | some env' =>
          rw [he] at g1
          exact tg_of S1 r1 he fun σ' S2 _ => g1 _ W1 H1 .refl S2
      · cases h
    | _ => simp [chkS] at h
  | .par ts es, X, sc, W0, st, c, tk, h => by
    cases st with
    | Assign tgs e' pos =>
      unfold chkS at h
      split at h
      · exact sound_par c tk h
      · cases h
    | _ => simp [chkS] at h
  | .aug i op e, X, sc, W0, st, c, tk, h => by
    cases st with
    | AugAssign t op' e' pos =>
      cases t with
      | Name x px =>
        simp only [chkS, Bool.and_eq_true, decide_eq_true_eq] at h
        obtain ⟨⟨⟨h1, h2⟩, rfl⟩, h3⟩ := h
        obtain ⟨l1, l2⟩ := c.loc x h2
        obtain ⟨r, hr, hop⟩ := aug_ok (X := X) (CA := CA) op
        refine PS.weak (ps_aug (by rw [c.c.hN]; exact c.c.nd) (by rw [c.c.hN]; exact h1) l1 (soundE e c.c tk h3) hr l2) ?_
        rintro D σ H ⟨W, env, obs, S, g⟩
        have g : LPost X.K CA W0 W D (match env[i]? with
          | some (.v x) => (denE Φ G e env obs).st env fun y o => match augD op x y with
            | some z => .nx (env.set i (.v z)) o
            | none => .bad
          | _ => .bad) := g
        cases hi : env[i]? with
        | none => rw [hi] at g; exact g.elim
        | some s =>
          rw [hi] at g
          cases s with
          | v a =>
            obtain ⟨u, hu, ru⟩ := S.get hi
            refine ⟨u, hu, ?_⟩
            refine LS.bnd (rel := relE X.K) S g fun b o1 v W1 H1 l1 S1 r1 g1 => ?_
            cases hz : augD op a b with
            | none => simp only [hz] at g1; exact g1.elim
            | some z =>
              simp only [hz] at g1
              exact hop W1 σ H1 env o1 u v a b z _ S1 (l1.d.rep ru) r1 hz fun w W2 H2 l2 S2 r2 => g1 _ W2 H2 l2.s (S2.set ⟨w, rfl, r2⟩)
          | _ => exact g.elim
      | _ => simp [chkS] at h
    | _ => simp [chkS] at h
  | .app i e, X, sc, W0, st, c, tk, h => by
    cases st with
    | Expr cl pos =>
      cases cl with
      | Call f es' kws cpos =>
        cases f with
        | Attribute o m apos =>
          cases o with
          | Name x px =>
            cases kws with
            | cons _ _ => simp [chkS] at h
            | nil =>
              cases es' with
              | nil => simp [chkS] at h
              | cons e' er =>
                cases er with
                | cons _ _ => simp [chkS] at h
                | nil =>
                  simp only [chkS, Bool.and_eq_true, Bool.not_eq_true', beq_iff_eq] at h
                  obtain ⟨⟨⟨⟨hx, rfl⟩, hl⟩, he⟩, hs⟩ := h
                  have hv := slot_ok (pos := px) c.c (i := i) (x := x) (by simpa [Bool.and_eq_true, and_assoc] using hx)
                  have hst := star_ok (es := []) (env := X.env) hs
                  refine PS.weak (ps_expr (pe_bm PySem.F.plainAttrs_list PySem.F.slot_list_append PySem.F.type_list_append mt_append hv (pa_cons (soundE e c.c tk he) pa_nil hst) rfl (by rw [hst]; rfl) (by simpa using hl) hst rfl) rfl) ?_
                  rintro D σ H ⟨W, env, obs, S, g⟩
                  have g : LPost X.K CA W0 W D (match env[i]? with
                    | some (.ol ds) => (denE Φ G e env obs).st env fun x o => if ds.length < sizeLine then .nx (env.set i (.ol (ds ++ [x]))) o else .bad
                    | _ => .bad) := g
                  cases hi : env[i]? with
                  | none => rw [hi] at g; exact g.elim
                  | some s =>
                    rw [hi] at g
                    cases s with
                    | ol ds =>
                      obtain ⟨p, vs, hσ, hr, hp, rs⟩ := S.getL hi
                      refine ⟨.ref p, hσ, .inl ⟨rfl, vs, SqL.of hp⟩, ?_⟩
                      refine LS.bnd (rel := relE X.K) S g fun a o1 v W1 H1 l1 S1 r1 g1 => ?_
                      split at g1
                      · rename_i hlt
                        have hp1 : H1 p = some (.lst vs) := (l1.o p _ hr rfl).trans hp
                        have hr1 := l1.r p _ hr
                        exact ⟨p, vs, v, rfl, rfl, hp1, by rw [rs.length]; exact hlt, g1 _ W1 _ .refl (S1.write (List.getElem?_eq_some_iff.mp hi).1 hσ hr1 ((l1.d.reps rs).append (Reps.one r1)) fun s z => by rw [hi] at z; cases z; exact ⟨_, rfl⟩)⟩
                      · exact g1.elim
                    | _ => exact g.elim
          | _ => simp [chkS] at h
        | _ => simp [chkS] at h
      | _ => simp [chkS] at h
    | _ => simp [chkS] at h
  | .ext i e, X, sc, W0, st, c, tk, h => by
    cases st with
    | Expr cl pos =>
      cases cl with
      | Call f es' kws cpos =>
        cases f with
        | Attribute o m apos =>
          cases o with
          | Name x px =>
            cases kws with
            | cons _ _ => simp [chkS] at h
            | nil =>
              cases es' with
              | nil => simp [chkS] at h
              | cons e' er =>
                cases er with
                | cons _ _ => simp [chkS] at h
                | nil =>
                  simp only [chkS, Bool.and_eq_true, Bool.not_eq_true', beq_iff_eq] at h
                  obtain ⟨⟨⟨⟨hx, rfl⟩, hl⟩, he⟩, hs⟩ := h
                  have hv := slot_ok (pos := px) c.c (i := i) (x := x) (by simpa [Bool.and_eq_true, and_assoc] using hx)
                  have hst := star_ok (es := []) (env := X.env) hs
                  refine PS.weak (ps_expr (pe_bm PySem.F.plainAttrs_list PySem.F.slot_list_extend PySem.F.type_list_extend mt_extend hv (pa_cons (soundE e c.c tk he) pa_nil hst) rfl (by rw [hst]; rfl) (by simpa using hl) hst rfl) rfl) ?_
                  rintro D σ H ⟨W, env, obs, S, g⟩
                  have g : LPost X.K CA W0 W D (match env[i]? with
                    | some (.ol ds) => (denE Φ G e env obs).st env fun x o => match x with
                      | .lst es => if ds.length + es.length ≤ sizeLine then .nx (env.set i (.ol (ds ++ es))) o else .bad
                      | _ => .bad
                    | _ => .bad) := g
                  cases hi : env[i]? with
                  | none => rw [hi] at g; exact g.elim
                  | some s =>
                    rw [hi] at g
                    cases s with
                    | ol ds =>
                      obtain ⟨p, vs, hσ, hr, hp, rs⟩ := S.getL hi
                      refine ⟨.ref p, hσ, .inl ⟨rfl, vs, SqL.of hp⟩, ?_⟩
                      refine LS.bnd (rel := relE X.K) S g fun a o1 v W1 H1 l1 S1 r1 g1 => ?_
                      cases a with
                      | lst es =>
                        simp only at g1
                        split at g1
                        · rename_i hlt
                          have hp1 : H1 p = some (.lst vs) := (l1.o p _ hr rfl).trans hp
                          have hr1 := l1.r p _ hr
                          obtain ⟨q, us, rfl, hq, rq⟩ := S1.lst r1
                          exact ⟨p, q, vs, us, rfl, rfl, hp1, hq, by rw [rs.length, rq.length]; exact hlt, g1 _ W1 _ .refl (S1.write (List.getElem?_eq_some_iff.mp hi).1 hσ hr1 ((l1.d.reps rs).append rq) fun s z => by rw [hi] at z; cases z; exact ⟨_, rfl⟩)⟩
                        · exact g1.elim
                      | _ => exact g1.elim
                    | _ => exact g.elim
          | _ => simp [chkS] at h
        | _ => simp [chkS] at h
      | _ => simp [chkS] at h
    | _ => simp [chkS] at h
  | .put i k e, X, sc, W0, st, c, tk, h => by
    cases st with
    | Assign tgs e' pos =>
      unfold chkS at h
      split at h
      · rename_i x px k' kpos
        simp only [Bool.and_eq_true, Bool.not_eq_true'] at h
        obtain ⟨⟨⟨⟨hx, hk⟩, he⟩, hs⟩, hn⟩ := h
        have hv := slot_ok (pos := px) c.c (i := i) (x := x) (by simpa [Bool.and_eq_true, and_assoc] using hx)
        refine PS.weak (ps_asg (soundE e c.c tk he) (pg_sub hv (soundE k c.c tk hk) set_list (asg_sub hs)) sw_sub (swN_ok hn) rfl) ?_
        rintro D σ H ⟨W, env, obs, S, g⟩
        have g : LPost X.K CA W0 W D (match env[i]? with
          | some (.ol ds) => (denE Φ G e env obs).st env fun x o => (denE Φ G k env o).st env fun y o => match y with
            | .int j => match ixN ds.length j with
              | some n => .nx (env.set i (.ol (ds.set n x))) o
              | none => .bad
            | _ => .bad
          | _ => .bad) := g
        cases hi : env[i]? with
        | none => rw [hi] at g; exact g.elim
        | some s =>
          rw [hi] at g
          cases s with
          | ol ds =>
            obtain ⟨p, vs, hσ, hr, hp, rs⟩ := S.getL hi
            refine LS.bnd (rel := relE X.K) S g fun a o1 v W1 H1 l1 S1 r1 g1 => ?_
            refine ⟨.ref p, hσ, ?_⟩
            refine LS.bnd (rel := relE X.K) S1 g1 fun b o2 u W2 H2 l2 S2 r2 g2 => ?_
            cases b with
            | int j =>
              cases r2
              cases hj : ixN ds.length j with
              | none => simp only [hj] at g2; exact g2.elim
              | some m =>
                simp only [hj] at g2
                have l12 := l1.trans l2
                have hp1 : H2 p = some (.lst vs) := (l12.o p _ hr rfl).trans hp
                have hr1 := l12.r p _ hr
                exact ⟨p, vs, j, m, rfl, rfl, hp1, by rw [rs.length]; exact hj, g2 _ W2 _ .refl (S2.write (List.getElem?_eq_some_iff.mp hi).1 hσ hr1 ((l12.d.reps rs).set m (l2.d.rep r1)) fun s z => by rw [hi] at z; cases z; exact ⟨_, rfl⟩)⟩
            | _ => exact g2.elim
          | _ => exact g.elim
      · cases h
    | _ => simp [chkS] at h
  | .oput a k e, X, sc, W0, st, c, tk, h => by
    cases st with
    | Assign tgs e' pos =>
      unfold chkS at h
      split at h
      · rename_i a' k' kpos
        simp only [Bool.and_eq_true, Bool.not_eq_true'] at h
        obtain ⟨⟨⟨⟨ha, hk⟩, he⟩, hs⟩, hn⟩ := h
        refine PS.weak (ps_asg (soundE e c.c tk he) (pg_sub (soundE a c.c tk ha) (soundE k c.c tk hk) set_list (asg_sub hs)) sw_sub (swN_ok hn) rfl) ?_
        rintro D σ H ⟨W, env, obs, S, g⟩
        refine LS.bnd (rel := relE X.K) S g fun x o1 v W1 H1 l1 S1 r1 g1 => ?_
        refine LS.bnd (rel := relE X.K) S1 g1 fun y o2 u W2 H2 l2 S2 r2 g2 => ?_
        refine LS.bnd (rel := relE X.K) S2 g2 fun z o3 w W3 H3 l3 S3 r3 g3 => ?_
        cases z with
        | int j =>
          cases r3
          cases hl : lsO o3 y with
          | none => simp only [hl] at g3; exact g3.elim
          | some ds =>
            cases hj : ixN ds.length j with
            | none => simp only [hl, hj] at g3; exact g3.elim
            | some m =>
              simp only [hl, hj] at g3
              obtain ⟨n, rfl, e3⟩ := lsO_some hl
              obtain ⟨p, vs, rfl, hA, hp, rs⟩ := S3.ols (l3.d.rep r2) e3
              obtain ⟨S4, l4⟩ := S3.owrite (o := .lst (vs.set m v)) (ob := .ls (ds.set m x)) hA (List.getElem?_eq_some_iff.mp e3).1 ⟨_, upd_same, rs.set m ((l2.trans l3).d.rep r1)⟩
              exact ⟨p, vs, j, m, rfl, rfl, hp, by rw [rs.length]; exact hj, g3 _ W3 _ l4.s S4⟩
        | _ => exact g3.elim
      · cases h
    | _ => simp [chkS] at h
  | .fput cn x a e, X, sc, W0, st, c, tk, h => by
    cases st with
    | Assign tgs e' pos =>
      unfold chkS at h
      split at h
      · rename_i a' x' p'
        simp only [Bool.and_eq_true, beq_iff_eq, List.any_eq_true] at h
        obtain ⟨⟨⟨rfl, b, hb, hdec⟩, ha⟩, he⟩ := h
        obtain ⟨C, hC, hcl, hno⟩ := c.c.mo.fi b hb cn x hdec
        refine PS.weak (ps_fld (soundE a c.c tk ha) (soundE e c.c tk he) sw_att) ?_
        rintro D σ H ⟨W, env, obs, S, g⟩
        refine LS.bnd (rel := relE X.K) S g fun d o1 v W1 H1 l1 S1 r1 g1 => ?_
        refine LS.bnd (rel := relE X.K) S1 g1 fun y o2 u W2 H2 l2 S2 r2 g2 => ?_
        cases hi : insO o2 cn y with
        | none => simp only [hi] at g2; exact g2.elim
        | some fs' =>
          simp only [hi] at g2
          by_cases hlt : fs'.length < 1000
          · rw [if_pos hlt] at g2
            obtain ⟨m, rfl, e3⟩ := insO_some hi
            obtain ⟨p, C', dx, vs, rfl, hA, hC', hp, hdx, hown, hk, hr⟩ := S2.oins r2 e3
            rw [hC] at hC'; cases hC'
            obtain ⟨k1, k2⟩ := put_rel (x := x) (l2.d.rep r1) hk hr
            have ne : dx ≠ p := fun z => by rw [z, hp] at hown; cases hown
            obtain ⟨S4, l4⟩ := S2.owrite (o := .ins C dx (L2.putF x v vs)) (ob := .ins cn (putD x d fs')) hA (List.getElem?_eq_some_iff.mp e3).1 ⟨C, dx, _, hC, upd_same, hdx, by rw [upd_ne ne]; exact hown, k1, k2⟩
            have hlen : vs.length = fs'.length := by have := congrArg List.length hk; simpa using this
            exact ⟨p, C, dx, vs, rfl, hp, hcl, hno, by rw [hlen]; exact hlt, g2 _ W2 _ l4.s S4⟩
          · rw [if_neg hlt] at g2; exact g2.elim
      · cases h
    | _ => simp [chkS] at h
  | .tfld cn a xs e, X, sc, W0, st, c, tk, h => by
    cases st with
    | Assign tgs e' pos =>
      unfold chkS at h
      split at h
      · rename_i ts' k p
        simp only [Bool.and_eq_true] at h
        obtain ⟨⟨h1, h2⟩, h3⟩ := h
        obtain ⟨hg, he1, he2⟩ := pgs_fl (soundE a c.c tk) h1
        have hsw : swappedStores [.Tuple ts' k p] e' X.env = pure none := by
          cases e' with
          | Tuple es' k2 p2 =>
            simp only at h3
            split at h3
            · rename_i hs
              exact swP_ok c.kind (by rw [c.c.hsc]; exact hs)
            · cases h3
          | _ => exact swN_ok rfl
        refine PS.weak (ps_asg (soundE e c.c tk h2) (pg_tup c.c.calm hg he1 he2) sw_tup hsw rfl) ?_
        rintro D σ H ⟨W, env, obs, S, g⟩
        refine LS.bnd (rel := relE X.K) S g fun y o1 v W1 H1 l1 S1 r1 g1 => ?_
        cases y with
        | tup ds =>
          by_cases hlen : ds.length = xs.length
          · have g1 : LPost X.K CA W0 W1 D (if ds.length = xs.length then fputsD cn (denE Φ G a) xs ds env o1 else .bad) := g1
            rw [if_pos hlen] at g1
            obtain ⟨q, vs, rfl, hp, rs⟩ := S1.tup r1
            exact ⟨q, vs, rfl, hp, by rw [rs.length]; exact hlen, fl_of c.c.mo (fun x hx => chkFl_mem h1 x hx) S1 rs g1⟩
          · have g1 : LPost X.K CA W0 W1 D (if ds.length = xs.length then fputsD cn (denE Φ G a) xs ds env o1 else .bad) := g1
            rw [if_neg hlen] at g1; exact g1.elim
        | _ => exact g1.elim
      · cases h
    | _ => simp [chkS] at h
  | .faug cn x op a e, X, sc, W0, st, c, tk, h => by
    cases st with
    | AugAssign t op' e' pos =>
      unfold chkS at h
      split at h
      · rename_i a' x' p'
        simp only [Bool.and_eq_true, beq_iff_eq, decide_eq_true_eq, List.any_eq_true] at h
        obtain ⟨⟨⟨⟨rfl, rfl⟩, b, hb, hdec⟩, ha⟩, he⟩ := h
        obtain ⟨C, hC, hcl, hno⟩ := c.c.mo.fi b hb cn x hdec
        have fin : ∀ {rd : V → V → Hp → VK → Prop}, (∀ (i j k : Int) (H : Hp) (Q : VK), addI op i j = some k → Q (.int k) H → rd (.int i) (.int j) H Q) → ∀ D σ H, LS X.K CA W0 (denS Φ G M (.faug cn x op a e)) D σ H → sFldAug X.K (LE X.K CA W0 (denE Φ G a)) (LE X.K CA W0 (denE Φ G e)) rd x D σ H := by
          rintro rd hrd D σ H ⟨W, env, obs, S, g⟩
          refine LS.bnd (rel := relE X.K) S g fun y o1 u W1 H1 l1 S1 r1 g1 => ?_
          cases hi : insO o1 cn y with
          | none => simp only [hi] at g1; exact g1.elim
          | some fs' =>
            simp only [hi, Option.bind_some] at g1
            cases hl : fs'.lookup x with
            | none => simp only [hl] at g1; exact g1.elim
            | some d =>
              cases d with
              | int i =>
                simp only [hl] at g1
                obtain ⟨m, rfl, e3⟩ := insO_some hi
                obtain ⟨p, C', dx, vs, rfl, hA, hC', hp, hdx, hown, hk, hr⟩ := S1.oins r1 e3
                rw [hC] at hC'; cases hC'
                obtain ⟨w, hw, rw1⟩ := (fld_rel hk hr).1 _ hl
                cases rw1.to_int
                refine ⟨p, C, dx, vs, .int i, rfl, hp, hcl, hno, hw, ?_⟩
                refine LS.bnd (rel := relE X.K) S1 g1 fun d o2 v W2 H2 l2 S2 r2 g2 => ?_
                cases d with
                | int j =>
                  cases r2.to_int
                  cases hk3 : addI op i j with
                  | none => simp only [hk3] at g2; exact g2.elim
                  | some k =>
                    simp only [hk3] at g2
                    cases hi2 : insO o2 cn (.obj m) with
                    | none => simp only [hi2] at g2; exact g2.elim
                    | some fs2 =>
                      simp only [hi2] at g2
                      by_cases hlt : fs2.length < 1000
                      · rw [if_pos hlt] at g2
                        obtain ⟨m', em, e4⟩ := insO_some hi2
                        cases em
                        obtain ⟨p2, C2, dx2, vs2, ep, hA2, hC2, hp2, hdx2, hown2, hk2, hr2⟩ := S2.oins (l2.d.rep r1) e4
                        cases ep
                        rw [hC] at hC2; cases hC2
                        obtain ⟨k1, k2⟩ := put_rel (x := x) (v := .int k) (d := .int k) (W := W2) (K := X.K) (.int k) hk2 hr2
                        have ne : dx2 ≠ p := fun z => by rw [z, hp2] at hown2; cases hown2
                        obtain ⟨S4, l4⟩ := S2.owrite (o := .ins C dx2 (L2.putF x (.int k) vs2)) (ob := .ins cn (putD x (.int k) fs2)) hA2 (List.getElem?_eq_some_iff.mp e4).1 ⟨C, dx2, _, hC, upd_same, hdx2, by rw [upd_ne ne]; exact hown2, k1, k2⟩
                        have hlen : vs2.length = fs2.length := by have := congrArg List.length hk2; simpa using this
                        exact hrd i j k _ _ hk3 ⟨dx2, vs2, hp2, by rw [hlen]; exact hlt, g2 _ W2 _ l4.s S4⟩
                      · rw [if_neg hlt] at g2; exact g2.elim
                | _ => exact g2.elim
              | _ => simp only [hl] at g1; exact g1.elim
        cases op with
        | Add => exact PS.weak (ps_fldaug (soundE a c.c tk ha) (soundE e c.c tk he) in_add) (fin fun i j k H Q hk q => ⟨i, j, rfl, rfl, by cases hk; exact q⟩)
        | Sub => exact PS.weak (ps_fldaug (soundE a c.c tk ha) (soundE e c.c tk he) in_sub) (fin fun i j k H Q hk q => ⟨i, j, rfl, rfl, by cases hk; exact q⟩)
        | _ =>
          refine PS.weak (ps_fldaug (rd := fun _ _ _ _ => False) (soundE a c.c tk ha) (soundE e c.c tk he) (fun _ _ _ _ _ _ _ _ _ _ _ _ h => h.elim)) (fin fun i j k H Q hk q => ?_)
          cases hk
      · cases h
    | _ => simp [chkS] at h
  | .ret e, X, sc, W0, st, c, tk, h => by
    cases st with
    | Return oe pos =>
      cases oe with
      | none => simp [chkS] at h
      | some e' =>
        refine PS.weak (ps_ret (soundE e c.c tk (by simpa [chkS] using h))) ?_
        rintro D σ H ⟨W, env, obs, S, g⟩
        exact LS.bnd (rel := relE X.K) S g fun a o1 v W1 H1 l1 S1 r1 g1 => g1 v W1 H1 .refl S1.h r1
    | _ => simp [chkS] at h
  | .ret0, X, sc, W0, st, c, tk, h => by
    cases st with
    | Return oe pos =>
      cases oe with
      | none => exact PS.weak ps_retN fun D σ H ⟨W, env, obs, S, g⟩ => g .non W H .refl S.h .non
      | some _ => simp [chkS] at h
    | _ => simp [chkS] at h
  | .mv i, X, sc, W0, st, c, tk, h => by
    cases st with
    | Return oe pos =>
      cases oe with
      | none => simp [chkS] at h
      | some e' =>
        cases e' with
        | Name x px =>
          refine PS.weak (ps_ret (slot_ok (i := i) c.c (by simpa [chkS] using h))) ?_
          rintro D σ H ⟨W, env, obs, S, g⟩
          have g : LPost X.K CA W0 W D (match env[i]? with
            | some (.ol ds) => .rt (.lst ds) obs
            | _ => .bad) := g
          cases hi : env[i]? with
          | none => rw [hi] at g; exact g.elim
          | some s =>
            rw [hi] at g
            cases s with
            | ol ds =>
              obtain ⟨W2, l2, S2⟩ := S.freeze hi
              obtain ⟨v, hσ, rv⟩ := S2.get (i := i) (d := .lst ds) (by rw [List.getElem?_set_self (List.getElem?_eq_some_iff.mp hi).1])
              exact ⟨v, hσ, g v W2 H l2 S2.h rv⟩
            | _ => exact g.elim
        | _ => simp [chkS] at h
    | _ => simp [chkS] at h
  | .ife k a b, X, sc, W0, st, c, tk, h => by
    cases st with
    | If k' a' b' pos =>
      simp only [chkS, Bool.and_eq_true] at h
      obtain ⟨⟨h1, h2⟩, h3⟩ := h
      refine PS.weak (ps_if (soundT k c.c tk h1) (soundSs a c tk h2) (soundSs b c tk h3)) ?_
      rintro D σ H ⟨W, env, obs, S, g⟩
      refine LS.bnd (rel := relT) S g fun x o1 v W1 H1 l1 S1 r1 g1 => ?_
      have r1 : v = x := r1
      subst r1
      cases v with
      | true => exact ⟨W1, env, o1, S1, g1⟩
      | false => exact ⟨W1, env, o1, S1, g1⟩
    | _ => simp [chkS] at h
  | .whl k b, X, sc, W0, st, c, tk, h => by
    cases st with
    | While k' b' oe pos =>
      cases oe with
      | cons _ _ => simp [chkS] at h
      | nil =>
        simp only [chkS, Bool.and_eq_true] at h
        refine PS.weak (ps_while c.own (soundT k c.c tk h.1) (soundSs b c tk h.2)) ?_
        rintro D σ H ⟨W, env, obs, S, g⟩
        refine ⟨fun m σ' H' => ∃ W' env' o', SRel X.K CA W' σ' H' env' o' ∧ LPost X.K CA W0 W' D (whileD (denT Φ G k) (denSs Φ G M b) m env' o'), ⟨M, W, env, obs, S, g⟩, ?_⟩
        rintro m σ1 H1 ⟨W1, env1, o1, S1, g1⟩
        cases m with
        | zero => exact g1.elim
        | succ m =>
          refine LS.bnd (rel := relT) S1 g1 fun x o2 v W2 H2 l2 S2 r2 g2 => ?_
          have r2 : v = x := r2
          subst r2
          cases v with
          | false => exact g2 _ W2 H2 .refl S2
          | true =>
            rw [if_pos rfl]
            refine ⟨_, fun σ' H' q => ⟨m, Nat.lt_succ_self m, q⟩, W2, env1, o2, S2, ?_⟩
            simp only [if_true] at g2
            cases hb : denSs Φ G M b env1 o2 with
            | nx e o => rw [hb] at g2; exact fun σ' W' H' l S' => ⟨W', e, o, S', LPost.mono l g2⟩
            | ct e o => rw [hb] at g2; exact fun σ' W' H' l S' => ⟨W', e, o, S', LPost.mono l g2⟩
            | bk e o => rw [hb] at g2; exact g2
            | rt d o => rw [hb] at g2; exact g2
            | ex cc a e o => rw [hb] at g2; exact g2
            | bad => rw [hb] at g2; exact g2
    | _ => simp [chkS] at h
  | .for_ tg it b, X, sc, W0, st, c, tk, h => by
    cases st with
    | For tg' it' b' oe pos =>
      cases oe with
      | cons _ _ => simp [chkS] at h
      | nil =>
        simp only [chkS, Bool.and_eq_true] at h
        obtain ⟨⟨h1, h2⟩, h3⟩ := h
        obtain ⟨hg, _⟩ := pg_of c.c.hN c.c.nd c.c.calm c.loc h2
        refine PS.weak (ps_for c.own c.c.calm (soundI it c.c tk h1) hg (soundSs b c tk h3) (folded_ok (chkI_set h1))) ?_
        rintro D σ H ⟨W, env, obs, S, g⟩
        refine LS.bnd (rel := relI X.K CA) S g fun ds o1 J W1 H1 l1 S1 wk g1 => ?_
        refine ⟨fun i m σ' H' => m = ds.length - i ∧ ∃ W' env' o', W1.leS W' ∧ SRel X.K CA W' σ' H' env' o' ∧ LPost X.K CA W0 W' D (forD tg (denSs Φ G M b) (ds.drop i) env' o'), ⟨ds.length, by simp, W1, env, o1, .refl, S1, by rw [List.drop_zero]; exact g1⟩, ?_⟩
        rintro i m σ2 H2 ⟨rfl, W2, env2, o2, l2, S2, g2⟩
        cases hd : ds.drop i with
        | nil =>
          rw [hd] at g2
          exact .inl ⟨wk.stop i W2 σ2 H2 env2 o2 l2 S2 (List.drop_eq_nil_iff.mp hd), g2 _ W2 H2 .refl S2⟩
        | cons d rest =>
          rw [hd] at g2
          have hil : i < ds.length := by
            apply Nat.lt_of_not_le
            intro q
            rw [List.drop_eq_nil_of_le q] at hd; cases hd
          have hdi : ds[i]? = some d := by
            have := List.getElem?_drop (xs := ds) (i := i) (j := 0)
            rw [hd] at this; simpa using this.symm
          have hrest : ds.drop (i + 1) = rest := by
            have := List.drop_drop (i := 1) (j := i) (l := ds)
            rw [hd] at this; simpa [Nat.add_comm] using this.symm
          obtain ⟨hgo, hy⟩ := wk.go i d W2 σ2 H2 env2 o2 l2 S2 hdi
          refine .inr ⟨hgo, _, fun σ' H' q => ⟨ds.length - (i + 1), by omega, q⟩, fun v H3 y3 => ?_⟩
          obtain ⟨W3, l3, S3, rv⟩ := hy v H3 y3
          unfold forD at g2
          cases es : setTg tg d env2 with
          | none => simp only [es] at g2; exact g2.elim
          | some env3 =>
            simp only [es] at g2
            have g3 := LPost.mono l3.s g2
            refine tg_of S3 rv es fun σ' S4 _ => ⟨W3, env3, o2, S4, ?_⟩
            cases hb : denSs Φ G M b env3 o2 with
            | nx e o => rw [hb] at g3; exact fun σ' W' H' l S' => ⟨rfl, W', e, o, l2.trans (l3.s.trans l), S', by rw [hrest]; exact LPost.mono l g3⟩
            | ct e o => rw [hb] at g3; exact fun σ' W' H' l S' => ⟨rfl, W', e, o, l2.trans (l3.s.trans l), S', by rw [hrest]; exact LPost.mono l g3⟩
            | bk e o => rw [hb] at g3; exact g3
            | rt d o => rw [hb] at g3; exact g3
            | ex cc a e o => rw [hb] at g3; exact g3
            | bad => rw [hb] at g3; exact g3
    | _ => simp [chkS] at h
  | .exp e, X, sc, W0, st, c, tk, h => by
    cases st with
    | Expr e' pos =>
      simp only [chkS, Bool.and_eq_true, Bool.not_eq_true'] at h
      refine PS.weak (ps_expr (soundE e c.c tk h.1) (sw_none h.2)) ?_
      rintro D σ H ⟨W, env, obs, S, g⟩
      exact LS.bnd (rel := relE X.K) S g fun a o1 v W1 H1 l1 S1 r1 g1 => g1 _ W1 H1 .refl S1
    | _ => simp [chkS] at h
  | .pass, X, sc, W0, st, c, tk, h => by
    cases st with
    | Pass pos => exact PS.weak ps_pass fun D σ H ⟨W, env, obs, S, g⟩ => g σ W H .refl S
    | _ => simp [chkS] at h
  | .brk, X, sc, W0, st, c, tk, h => by
    cases st with
    | Break pos => exact PS.weak ps_break fun D σ H ⟨W, env, obs, S, g⟩ => g σ W H .refl S
    | _ => simp [chkS] at h
  | .cnt, X, sc, W0, st, c, tk, h => by
    cases st with
    | Continue pos => exact PS.weak ps_continue fun D σ H ⟨W, env, obs, S, g⟩ => g σ W H .refl S
    | _ => simp [chkS] at h
theorem soundSs : ∀ (m : Ss) {X : Cx} {sc : Scope} {W0 : WX} {st : List Stmt}, CtxS CA fs bs N G Φ n sc X → Takes X W0 → chkSs fs bs N sc m st = true → PSs X st (LS X.K CA W0 (denSs Φ G M m))
  | .nil, X, sc, W0, st, c, tk, h => by
    cases st with
    | nil => exact PSs.weak pss_nil fun D σ H ⟨W, env, obs, S, g⟩ => g σ W H .refl S
    | cons _ _ => simp [chkSs] at h
  | .cons s r, X, sc, W0, st, c, tk, h => by
    cases st with
    | nil => simp [chkSs] at h
    | cons s' r' =>
      simp only [chkSs, Bool.and_eq_true] at h
      refine PSs.weak (pss_cons (soundS s c tk h.1) (soundSs r c tk h.2)) ?_
      rintro D σ H ⟨W, env, obs, S, g⟩
      refine ⟨W, env, obs, S, ?_⟩
      have g : LPost X.K CA W0 W D ((denS Φ G M s env obs).seq fun env o => denSs Φ G M r env o) := g
      cases hs : denS Φ G M s env obs with
      | nx e o => rw [hs] at g; exact fun σ' W' H' l S' => ⟨W', e, o, S', LPost.mono l g⟩
      | ct e o => rw [hs] at g; exact g
      | bk e o => rw [hs] at g; exact g
      | rt d o => rw [hs] at g; exact g
      | ex cc a e o => rw [hs] at g; exact g
      | bad => rw [hs] at g; exact g
  | .frz i r, X, sc, W0, st, c, tk, h => by
    refine PSs.weak (soundSs r c tk (by simpa [chkSs] using h)) ?_
    rintro D σ H ⟨W, env, obs, S, g⟩
    have g : LPost X.K CA W0 W D (match env[i]? with
      | some (.ol ds) => denSs Φ G M r (env.set i (.v (.lst ds))) obs
      | _ => denSs Φ G M r env obs) := g
    cases hi : env[i]? with
    | none => rw [hi] at g; exact ⟨W, env, obs, S, g⟩
    | some s =>
      rw [hi] at g
      cases s with
      | ol ds =>
        obtain ⟨W2, l2, S2⟩ := S.freeze hi
        exact ⟨W2, _, obs, S2, LPost.mono l2 g⟩
      | _ => exact ⟨W, env, obs, S, g⟩
end
end
end Mp

set_option Elab.async false
set_option linter.all false
set_option maxRecDepth 100000
set_option maxHeartbeats 4000000
/-! Defs and programs; the end of a law. -/
namespace Mp
open PySem PySem.Spec PyProof.Rows L2

theorem reps_start {K : PySem.W.Frag} {CA : Str → Option Addr} {W : Wd} {H : Hp} {obs : Obs} {N : List Str} {vs : List V} {ds : List D} (h : HRel K CA W H obs) (r : W.reps K vs ds) (hl : vs.length ≤ N.length) :
    SRel K CA W (L2.start N vs) H (ds.map .v ++ List.replicate (N.length - ds.length) .un) obs := by
  have hlen := r.length
  refine ⟨h, by simp [L2.start, hlen], fun i s e => ?_⟩
  by_cases hi : i < ds.length
  · rw [List.getElem?_append_left (by simpa using hi), List.getElem?_map] at e
    cases q : ds[i]? with
    | none => rw [q] at e; cases e
    | some d =>
      rw [q] at e
      cases e
      obtain ⟨v, hv, rv⟩ := r.get q
      refine ⟨v, ?_, rv⟩
      unfold L2.start
      rw [List.getElem?_append_left (by simp [hlen]; exact hi), List.getElem?_map, hv]
      rfl
  · rw [List.getElem?_append_right (by simpa using hi)] at e
    obtain ⟨hlt, e'⟩ := List.getElem?_eq_some_iff.mp e
    rw [List.getElem_replicate] at e'
    subst e'
    trivial
/-- a def of the text keeps the promise of its meaning -/
theorem fn_sound {P : Program} {w : World} {K : PySem.W.Frag} {mg : Str → Option Value} {base : Heap} {CA : Str → Option Addr} {fs bs N ps : List Str} {G : Str → Option D} {Φ : Str → List D → Obs → R D} {n M : Nat} {x qual : Str} {st : Stmt} {f : Addr} {fd : FuncData} {e : Fn}
    (F : Fun K x qual st f fd) (S : FnScope N ps (defScope st)) (hps : ps.length = e.ps) (hN : N.length = e.sl) (hle : e.ps ≤ e.sl) (h : chkSs fs bs N (defScope st) e.body (defBody st) = true) (mo : Mo K CA P w mg base fs bs G Φ n) :
    FnOk P w K mg base (L2.CX P w) (n + 1) f fd ps (spC K CA (runFn e Φ G M)) := by
  refine F.okX S (fun vs H Q E hsp => ?_) (fun cdv A outer s H vs Q E hr hsp => ?_)
  · obtain ⟨W, obs, ds, HR, nl, r, g⟩ := hsp
    unfold runFn at g
    by_cases hl : ds.length = e.ps
    · rw [Reps.length r, hl, hps]
    · rw [if_neg hl] at g; exact g.elim
  · obtain ⟨W, obs, ds, HR, nl, r, g⟩ := hsp
    have c : CtxS CA fs bs N G Φ n (defScope st) (cxOf (L2.CX P w) P w K mg base N qual (defScope st) f cdv A outer s H E) :=
      ⟨⟨rfl, S.nd, rfl, rfl, hr, mo⟩, passes_of rfl, fun _ => rfl, S.kind, rfl, rfl⟩
    have tk : Takes (cxOf (L2.CX P w) P w K mg base N qual (defScope st) f cdv A outer s H E) (fun cls d _ H => E cls d H) := takes_of rfl rfl rfl rfl
    refine ⟨_, soundSs (M := M) e.body c tk h, ?_⟩
    unfold runFn at g
    by_cases hl : ds.length = e.ps
    · rw [if_pos hl] at g
      have hN' : N.length - ds.length = e.sl - e.ps := by rw [hN, hl]
      have S0 := reps_start (N := N) HR r (by rw [r.length, hl, hN]; exact hle)
      rw [hN'] at S0
      refine ⟨W, _, obs, S0, ?_⟩
      cases hd : denSs Φ G M e.body (ds.map .v ++ List.replicate (e.sl - e.ps) .un) obs with
      | nx env o => rw [hd] at g; exact fun σ' W' H' l S' => g .non W' H' l S'.h .non
      | rt d o => rw [hd] at g; exact fun v W' H' l S' rv => g v W' H' l S' rv
      | bk env o => rw [hd] at g; exact g.elim
      | ct env o => rw [hd] at g; exact g.elim
      | ex cc a env o => rw [hd] at g; exact fun cls dd σ' W' H' l S' x => g cls dd W' H' l S'.h x
      | bad => rw [hd] at g; exact g.elim
    · rw [if_neg hl] at g; exact g.elim

theorem spC_bad {P : Program} {w : World} {K : PySem.W.Frag} {mg : Str → Option Value} {base : Heap} {CX : CXT} {CA : Str → Option Addr} {n : Nat} {f : Addr} {fd : FuncData} {ps : List Str} {g : List D → Obs → R D} (hg : ∀ ds o, g ds o = .bad) : FnOk P w K mg base CX n f fd ps (spC K CA g) :=
  ⟨fun vs H Q E ⟨W, obs, ds, _, _, _, h⟩ => by rw [hg] at h; exact h.elim, fun A outer s H args us vs Q E _ _ _ _ ⟨W, obs, ds, _, _, _, h⟩ => by rw [hg] at h; exact h.elim⟩
/-- a def as the top has left it -/
structure DefOk (K : PySem.W.Frag) (mg : Str → Option Value) (fs bs : List Str) (x : Str) (e : Fn) : Prop where
  ex : ∃ st f fd N ps, Fun K x x st f fd ∧ FnScope N ps (defScope st) ∧ ps.length = e.ps ∧ N.length = e.sl ∧ e.ps ≤ e.sl ∧ chkSs fs bs N (defScope st) e.body (defBody st) = true ∧ mg x = some (.ref f) ∧ Binds K fd ps []
/-- a method as the top has left it -/
structure MthOk (K : PySem.W.Frag) (CA : Str → Option Addr) (fs bs : List Str) (c m : Str) (e : Fn) : Prop where
  ex : ∃ C st f fd N ps, CA c = some C ∧ L2.Cls K C ∧ Meth K C m f ∧ Fun K m (mthQ c m) st f fd ∧ FnScope N ps (defScope st) ∧ ps.length = e.ps ∧ N.length = e.sl ∧ e.ps ≤ e.sl ∧ chkSs fs bs N (defScope st) e.body (defBody st) = true ∧ Binds K fd ps []
/-- a class with its __init__ as the top has left it -/
structure MkOk (K : PySem.W.Frag) (mg : Str → Option Value) (CA : Str → Option Addr) (fs bs : List Str) (c : Str) (e : Fn) : Prop where
  ex : ∃ C st f fd N ps, CA c = some C ∧ mg c = some (.ref C) ∧ Mk K C f ∧ Fun K "__init__" (mthQ c "__init__") st f fd ∧ FnScope N ps (defScope st) ∧ ps.length = e.ps ∧ N.length = e.sl ∧ e.ps ≤ e.sl ∧ chkSs fs bs N (defScope st) e.body (defBody st) = true ∧ Binds K fd ps []
theorem pg_sound {P : Program} {w : World} {K : PySem.W.Frag} {mg : Str → Option Value} {base : Heap} {CA : Str → Option Addr} {fs bs : List Str} {Q : Pg} {M : Nat}
    (hcl : ∀ c, clsNm c ∈ bs → ClsOk P w K mg base CA c) (hb : ∀ x ∈ bs, mg x = none) (hg : ∀ x d, Q.gl.lookup x = some d → ∃ u v, mg x = some u ∧ RelV v u ∧ Rep K (fun _ => none) [] v d)
    (hd : ∀ x e, Q.fn.lookup x = some e → DefOk K mg fs bs x e) (hf : ∀ f ∈ fs, ∃ e, Q.fn.lookup f = some e)
    (hm : ∀ b ∈ bs, ∀ c m, decM b = some (c, m) → ∃ e, Q.fn.lookup (mthQ c m) = none ∧ Q.ms.lookup (mthQ c m) = some e ∧ MthOk K CA fs bs c m e)
    (hk : ∀ b ∈ bs, ∀ c m, decK b = some (c, m) → ∃ e, Q.fn.lookup (mthQ c "__init__") = none ∧ Q.ms.lookup (mthQ c "__init__") = some e ∧ MkOk K mg CA fs bs c e)
    (hfi : ∀ b ∈ bs, ∀ c x, decF b = some (c, x) → ∃ C, CA c = some C ∧ L2.Cls K C ∧ NoAttr K C x) : ∀ n, Mo K CA P w mg base fs bs (fun x => Q.gl.lookup x) (Q.call M n) (2 * n + 2) := by
  intro n
  induction n with
  | zero =>
    refine ⟨hb, hg, fun f hfm => ?_, hcl, fun b hbm c m h => ?_, fun b hbm c m h => ?_, hfi, Nat.le_refl _⟩
    · obtain ⟨e, he⟩ := hf f hfm
      obtain ⟨st, a, fd, N, ps, F, S, _, _, _, _, hmg, hbd⟩ := (hd f e he).ex
      exact ⟨a, fd, ps, spC_bad fun _ _ => rfl, hmg, F.kp, hbd⟩
    · obtain ⟨e, _, _, ⟨C, st, f, fd, N, ps, h1, h2, h3, F, S, _, _, _, _, hbd⟩⟩ := hm b hbm c m h
      exact ⟨C, f, fd, ps, h1, h2, h3, spC_bad fun _ _ => rfl, hbd⟩
    · obtain ⟨e, _, _, ⟨C, st, f, fd, N, ps, h1, h2, h3, F, S, _, _, _, _, hbd⟩⟩ := hk b hbm c m h
      exact ⟨C, f, fd, ps, 0, h1, h2, h3, by decide, spC_bad fun _ _ => rfl, hbd⟩
  | succ n ih =>
    have eM : ∀ q e, Q.fn.lookup q = none → Q.ms.lookup q = some e → Q.call M (n + 1) q = runFn e (Q.call M n) (fun x => Q.gl.lookup x) M := fun q e h1 h2 => by
      funext ds o
      show (match Q.fn.lookup q with
        | some e => runFn e (Q.call M n) (fun x => Q.gl.lookup x) M ds o
        | none => (match Q.ms.lookup q with
          | some e => runFn e (Q.call M n) (fun x => Q.gl.lookup x) M ds o
          | none => .bad)) = _
      rw [h1, h2]
    refine ⟨hb, hg, fun f hfm => ?_, hcl, fun b hbm c m h => ?_, fun b hbm c m h => ?_, hfi, by omega⟩
    · obtain ⟨e, hfn⟩ := hf f hfm
      obtain ⟨st, a, fd, N, ps, F, S, h1, h2, h3, h4, hmg, hbd⟩ := (hd f e hfn).ex
      refine ⟨a, fd, ps, ?_, hmg, F.kp, hbd⟩
      have := fn_sound (M := M) F S h1 h2 h3 h4 ih
      have e2 : Q.call M (n + 1) f = runFn e (Q.call M n) (fun x => Q.gl.lookup x) M := by
        funext ds o
        show (match Q.fn.lookup f with
          | some e => runFn e (Q.call M n) (fun x => Q.gl.lookup x) M ds o
          | none => _) = _
        rw [hfn]
      rw [e2]; exact this.mono (by omega)
    · obtain ⟨e, l1, l2, ⟨C, st, f, fd, N, ps, g1, g2, g3, F, S, h1, h2, h3, h4, hbd⟩⟩ := hm b hbm c m h
      refine ⟨C, f, fd, ps, g1, g2, g3, ?_, hbd⟩
      rw [eM _ e l1 l2]
      exact (fn_sound (M := M) F S h1 h2 h3 h4 ih).mono (by omega)
    · obtain ⟨e, l1, l2, ⟨C, st, f, fd, N, ps, g1, g2, g3, F, S, h1, h2, h3, h4, hbd⟩⟩ := hk b hbm c m h
      refine ⟨C, f, fd, ps, 2 * n + 3, g1, g2, g3, by omega, ?_, hbd⟩
      rw [eM _ e l1 l2]
      exact fn_sound (M := M) F S h1 h2 h3 h4 ih
/-- the law's def, of a script -/
theorem law_sp {K : PySem.W.Frag} {CA : Str → Option Addr} {g : List D → Obs → R D} {H : Hp} {a : Addr} {ns : List Int} {E : XK} (ho : Only H) (hS : SqL K H a (ns.map V.int)) (h : ∃ o, g [.loc ns] [] = .ok (.bl true) o) :
    spC K CA g [.ref a] H (fun v _ => v = .bl true) E := by
  obtain ⟨o, h⟩ := h
  have hF : ∀ p u, (⟨fun p => if p = a then (H a).map Role.fro else none, []⟩ : Wd).ρ p = some u → p = a ∧ ∃ x, H a = some x ∧ u = .fro x := fun p u e => by
    have e' : (if p = a then (H a).map Role.fro else none) = some u := e
    split at e'
    · rename_i hp
      cases q : H a with
      | none => rw [q] at e'; cases e'
      | some x => rw [q] at e'; exact ⟨hp, x, rfl, (Option.some.inj e').symm⟩
    · cases e'
  refine ⟨⟨fun p => if p = a then (H a).map Role.fro else none, []⟩, [], [.loc ns], ⟨fun p u e => ?_, fun p u e => ?_, fun p u e => ?_, rfl, fun n ob e => by simp at e⟩, fun p u e => ?_, .cons (.loc ?_) .nil, ?_⟩
  · obtain ⟨rfl, x, hx, z⟩ := hF p _ e
    cases z; exact hx
  · obtain ⟨_, x, _, z⟩ := hF p _ e
    cases z
  · obtain ⟨rfl, x, hx, z⟩ := hF p _ e
    exact ⟨x, hx⟩
  · obtain ⟨_, x, _, z⟩ := hF p _ e
    subst z; rfl
  · have hA : ∀ u, H a = some u → (⟨fun p => if p = a then (H a).map Role.fro else none, []⟩ : Wd).F a = some u := fun u e => by
      rw [Wd.F_of]
      show (if a = a then (H a).map Role.fro else none) = _
      rw [if_pos rfl, e]; rfl
    rcases hS with (q | ⟨u, q⟩) | q
    · exact .inl (.inl (hA _ q))
    · exact .inl (.inr ⟨u, hA _ q⟩)
    · exact .inr q
  · rw [h]
    intro v W' H' _ _ r
    exact r.to_bl
end Mp

set_option Elab.async false
set_option linter.all false
set_option maxRecDepth 100000
set_option maxHeartbeats 4000000
/-! From what the top has written to the law. -/
namespace Mp
open PySem PySem.Spec PyProof.Rows L2

/-- a def as the top has written it -/
structure DFact (K : PySem.W.Frag) (x : Str) (st : Stmt) (f : Addr) (kV doc pm : Value) (an : Option Addr) (cdv ct : Value) : Prop where
  ns : PySem.W.nsIn K mainGlobals x = some (some (.ref f))
  lk : ∃ oc od osl, K.lookup f = some ⟨oc, od, .func (PySem.W.fnOf x x (defArgs st) (defBody st) (defScope st) .none kV doc pm an cdv ct), osl⟩
  cd : PySem.W.codeIn K cdv x = true
  kp : PySem.W.keepIn K (.ref f) = true
/-- it binds so many arguments -/
def BindN (x : Str) (st : Stmt) (ps : List Str) : Prop := ∀ (kV doc pm : Value) (an : Option Addr) (cdv ct : Value) (us : List Value), us.length = ps.length → bindArgs (PySem.W.fnOf x x (defArgs st) (defBody st) (defScope st) .none kV doc pm an cdv ct) ⟨us, []⟩ = pure (ps.zip us)
/-- a def that is known, whatever the rest of it is -/
def Known (K : PySem.W.Frag) (x : Str) (st : Stmt) : Prop := ∃ f kV doc pm an cdv ct, DFact K x st f kV doc pm an cdv ct
theorem known {K : PySem.W.Frag} {x : Str} {st : Stmt} {f : Addr} {oc : Value} {od an : Option Addr} {osl : Array (Option Value)} {kV doc pm cdv ct : Value} (a : PySem.W.nsIn K mainGlobals x = some (some (.ref f)))
    (l : K.lookup f = some ⟨oc, od, .func (PySem.W.fnOf x x (defArgs st) (defBody st) (defScope st) .none kV doc pm an cdv ct), osl⟩) (c : PySem.W.codeIn K cdv x = true) (k : PySem.W.keepIn K (.ref f) = true) : Known K x st := ⟨f, kV, doc, pm, an, cdv, ct, a, ⟨_, _, _, l⟩, c, k⟩
/-- the text's side of a def -/
structure DTxt (fs bs : List Str) (x : Str) (st : Stmt) (N ps : List Str) (e : Fn) : Prop where
  S : FnScope N ps (defScope st)
  h1 : ps.length = e.ps
  h2 : N.length = e.sl
  h3 : e.ps ≤ e.sl
  h4 : chkSs fs bs N (defScope st) e.body (defBody st) = true
  b : BindN x st ps
section
variable {K : PySem.W.Frag} {h : Heap} {mg : Str → Option Value} {fs bs : List Str}
theorem Known.ok {x : Str} {st : Stmt} {N ps : List Str} {e : Fn} (X : K.In h) (G : h.Ns mainGlobals mg) (D : Known K x st) (T : DTxt fs bs x st N ps e) : DefOk K mg fs bs x e := by
  obtain ⟨f, kV, doc, pm, an, cdv, ct, a, ⟨oc, od, osl, l⟩, c, k⟩ := D
  have F := fun_mk (st := st) l c k
  exact ⟨st, f, _, N, ps, F, T.S, T.h1, T.h2, T.h3, T.h4, PySem.W.mg_of X G a, F.binds T.b⟩
/-- a list of defs, by their names -/
def DefsOk (K : PySem.W.Frag) (mg : Str → Option Value) (fs bs : List Str) : List (Str × Fn) → Prop
  | [] => True
  | (x, e) :: r => DefOk K mg fs bs x e ∧ DefsOk K mg fs bs r
theorem DefsOk.get : ∀ {l : List (Str × Fn)}, DefsOk K mg fs bs l → ∀ x e, l.lookup x = some e → DefOk K mg fs bs x e
  | [], _, x, e, h => by cases h
  | (y, d) :: r, q, x, e, h => by
    rw [List.lookup_cons] at h
    by_cases hy : x = y
    · subst hy
      simp at h; subst h; exact q.1
    · have : (x == y) = false := by simpa using hy
      rw [this] at h
      exact q.2.get x e h
/-- constants that are numbers or texts -/
def GlOk (K : PySem.W.Frag) (mg : Str → Option Value) : List (Str × D) → Prop
  | [] => True
  | (x, d) :: r => (∃ u v, mg x = some u ∧ RelV v u ∧ Rep K (fun _ => none) [] v d) ∧ GlOk K mg r
theorem GlOk.get : ∀ {l : List (Str × D)}, GlOk K mg l → ∀ x d, l.lookup x = some d → ∃ u v, mg x = some u ∧ RelV v u ∧ Rep K (fun _ => none) [] v d
  | [], _, x, e, h => by cases h
  | (y, d) :: r, q, x, e, h => by
    rw [List.lookup_cons] at h
    by_cases hy : x = y
    · subst hy
      simp at h; subst h; exact q.1
    · have : (x == y) = false := by simpa using hy
      rw [this] at h
      exact q.2.get x e h
theorem gl_int {x : Str} {i : Int} {t : Tok} (X : K.In h) (G : h.Ns mainGlobals mg) (a : PySem.W.nsIn K mainGlobals x = some (some (.int i t))) : ∃ u v, mg x = some u ∧ RelV v u ∧ Rep K (fun _ => none) [] v (.int i) :=
  ⟨_, .int i, PySem.W.mg_of X G a, ⟨t, rfl⟩, .int i⟩
theorem gl_str {x : Str} {i : Str} {t : Tok} (X : K.In h) (G : h.Ns mainGlobals mg) (a : PySem.W.nsIn K mainGlobals x = some (some (.str i t))) : ∃ u v, mg x = some u ∧ RelV v u ∧ Rep K (fun _ => none) [] v (.str i) :=
  ⟨_, .str i, PySem.W.mg_of X G a, ⟨t, rfl⟩, .str i⟩
end
/-! constants of the text, tuples of them too -/
mutual
inductive GV (K : PySem.W.Frag) : Value → V → D → Prop
  | non : GV K .none .non .non
  | bl (b : Bool) : GV K (.bool b) (.bl b) (.bl b)
  | int (i : Int) (t : Tok) : GV K (.int i t) (.int i) (.int i)
  | str (x : Str) (t : Tok) : GV K (.str x t) (.str x) (.str x)
  | tup {p : Addr} {od : Option Addr} {its : Array Value} {n : Nat} {sl : Array (Option Value)} {vs : List V} {ds : List D} (l : K.lookup p = some ⟨.type "tuple", od, .seq its n, sl⟩) (z : its.size ≤ 10000) (h : GVs K its.toList vs ds) : GV K (.ref p) (.ref p) (.tup ds)
inductive GVs (K : PySem.W.Frag) : List Value → List V → List D → Prop
  | nil : GVs K [] [] []
  | cons {u : Value} {v : V} {d : D} {us : List Value} {vs : List V} {ds : List D} : GV K u v d → GVs K us vs ds → GVs K (u :: us) (v :: vs) (d :: ds)
end
mutual
theorem GV.rel {K : PySem.W.Frag} : ∀ {u : Value} {v : V} {d : D}, GV K u v d → RelV v u ∧ Rep K (fun _ => none) [] v d
  | _, _, _, .non => ⟨rfl, .non⟩
  | _, _, _, .bl b => ⟨rfl, .bl b⟩
  | _, _, _, .int i t => ⟨⟨t, rfl⟩, .int i⟩
  | _, _, _, .str x t => ⟨⟨t, rfl⟩, .str x⟩
  | _, _, _, .tup l z h => ⟨rfl, .tup (.inr ⟨_, _, _, l, rfl, rfl, Nat.le_trans z (by decide), (GVs.rel h).1⟩) (GVs.rel h).2⟩
theorem GVs.rel {K : PySem.W.Frag} : ∀ {u : List Value} {v : List V} {d : List D}, GVs K u v d → Vals v u ∧ Reps K (fun _ => none) [] v d
  | _, _, _, .nil => ⟨.nil, .nil⟩
  | _, _, _, .cons a b => ⟨.cons (GV.rel a).1 (GVs.rel b).1, .cons (GV.rel a).2 (GVs.rel b).2⟩
end
/-- a constant as the top has left it -/
def GC (K : PySem.W.Frag) (x : Str) (d : D) : Prop := ∃ u v, PySem.W.nsIn K mainGlobals x = some (some u) ∧ GV K u v d
theorem gc {K : PySem.W.Frag} {x : Str} {d : D} {u : Value} {v : V} (a : PySem.W.nsIn K mainGlobals x = some (some u)) (g : GV K u v d) : GC K x d := ⟨u, v, a, g⟩
section
variable {K : PySem.W.Frag} {h : Heap} {mg : Str → Option Value} {fs bs : List Str}
theorem GC.ok {x : Str} {d : D} (X : K.In h) (G : h.Ns mainGlobals mg) (a : GC K x d) : ∃ u v, mg x = some u ∧ RelV v u ∧ Rep K (fun _ => none) [] v d := by
  obtain ⟨u, v, a, g⟩ := a
  exact ⟨u, v, PySem.W.mg_of X G a, g.rel.1, g.rel.2⟩
def BsOk (mg : Str → Option Value) : List Str → Prop
  | [] => True
  | x :: r => mg x = none ∧ BsOk mg r
theorem BsOk.get : ∀ {l : List Str}, BsOk mg l → ∀ x ∈ l, mg x = none
  | [], _, _, h => by cases h
  | y :: r, q, x, h => by
    rcases List.mem_cons.mp h with rfl | h
    · exact q.1
    · exact q.2.get x h
/-- where the top has left a class -/
def CAof (K : PySem.W.Frag) (c : Str) : Option Addr := match PySem.W.nsIn K mainGlobals c with
  | some (some (.ref C)) => some C
  | _ => none
/-- an exception class as the top has left it -/
def ClK (P : Program) (K : PySem.W.Frag) (c : Str) : Prop := ∃ C fI cc cda st msg, PySem.W.nsIn K mainGlobals c = some (some (.ref C)) ∧ BadT st msg ∧ BadC P K st C fI cc cda
theorem clk {P : Program} {K : PySem.W.Frag} {c : Str} {st : Stmt} {msg : Str} (T : BadT st msg) {C fI cc cda : Addr} {nm q qual file : Str} {N : Addr} {bs bm : List Value} {sn : List Str} {sub : List Value} {ab : Bool} {col : Option Bool} {dd : Option Addr} {k0 k1 k2 k3 k5 : Option Value}
    {oc kV doc pm ct ccl cl : Value} {od an cdd cld : Option Addr} {osl ccs csl : Array (Option Value)} {vs : Array Value} {tk : Tok}
    (a : PySem.W.nsIn K mainGlobals c = some (some (.ref C)))
    (xL : K.lookup C = some (excClassObj nm q C N bs bm true sn sub ab col dd k0 k1 k2 k3 k5 "ValueError.__new__")) (rv : PySem.HandSPX.refsVE bm = true)
    (sa : PySem.W.findIn K (.ref C) "__setattr__" = some (some (.builtin "object.__setattr__"))) (eb : PySem.W.subIn K (.ref C) (.type "BaseException") = some true) (ty : PySem.W.typeIn K (.ref C) = some (.type "type")) (kp : PySem.W.keepIn K (.ref C) = true)
    (ini : PySem.W.findIn K (.ref C) "__init__" = some (some (.ref fI))) (tf : PySem.W.typeIn K (.ref fI) = some (.type "function"))
    (lf : K.lookup fI = some ⟨oc, od, .func (PySem.W.ksFn "__init__" qual (defArgs st) (defBody st) (defScope st) .none kV doc pm an (.ref cda) ct cc), osl⟩) (cf : PySem.W.codeIn K (.ref cda) qual = true)
    (lc : K.lookup cda = some ⟨ccl, cdd, .fields vs, ccs⟩) (v2 : vs[2]? = some (.str file tk)) (fl : ((P.main.file : Str) == file) = true) (ce : K.lookup cc = some ⟨cl, cld, .cell (some (.ref C)), csl⟩)
    (mr : PySem.W.mroIn K C (.ref C) = some true) (su : PySem.W.ks_superIn K C C "__init__" = some (some (.builtin "ValueError.__init__"))) (ve : PySem.W.subIn K (.ref C) (.type "ValueError") = some true)
    (s1 : PySem.W.nsIn K mainGlobals "super" = some none) (s2 : PySem.W.nsIn K mainGlobals "str" = some none) (tp : PySem.W.nsIn K cStatics "thirdparty.any" = some none) (pl : PySem.W.findIn K (.ref C) "place" = some none)
    (ga : PySem.W.findIn K (.ref C) "__getattribute__" = some (some (.builtin "BaseException.__getattribute__"))) (gg : PySem.W.findIn K (.ref C) "__getattr__" = some none) (hd : PySem.W.hasDictIn K C = true) (ex : PySem.W.exmOne K (.ref C) (.ref C) = some true)
    (top : (P.main.scope.names.lookup ("super" : Str)).isSome = false) : ClK P K c :=
  ⟨C, fI, cc, cda, st, msg, a, T, ⟨⟨⟨nm, q, N, bs, bm, sn, sub, ab, col, dd, k0, k1, k2, k3, k5, xL, rv⟩, sa, eb, ty, kp⟩, ini, tf, ⟨oc, od, osl, qual, kV, doc, pm, an, ct, lf, cf⟩, ⟨ccl, cdd, vs, ccs, file, tk, lc, v2, fl⟩, ⟨cl, cld, csl, ce⟩,
    ⟨_, by unfold PySem.W.clsIn; rw [xL]⟩, mr, su, ve, s1, s2, tp, pl, ⟨ga, gg, eb, hd⟩, ex, top⟩⟩
def ClsL (P : Program) (K : PySem.W.Frag) : List Str → Prop
  | [] => True
  | c :: r => ClK P K c ∧ ClsL P K r
theorem ClsL.get {P : Program} : ∀ {l : List Str}, ClsL P K l → ∀ c ∈ l, ClK P K c
  | [], _, _, h => by cases h
  | y :: r, q, x, h => by
    rcases List.mem_cons.mp h with rfl | h
    · exact q.1
    · exact q.2.get x h
theorem ClK.ok {P : Program} {w : World} {base : Heap} {c : Str} (X : K.In h) (G : h.Ns mainGlobals mg) (q : ClK P K c) : ClsOk P w K mg base (CAof K) c := by
  obtain ⟨C, fI, cc, cda, st, msg, hn, T, B⟩ := q
  obtain ⟨fd, F, b⟩ := init_ok (w := w) (mg := mg) (base := base) T B (PySem.W.mg_none_of X G B.s1) (PySem.W.mg_none_of X G B.s2)
  exact ⟨C, fI, fd, by unfold CAof; rw [hn], PySem.W.mg_of X G hn, B.o, B.ini, B.typ, F, b, B.xf, B.pl, B.ex⟩
theorem clsNm_inj {a b : Str} (h : clsNm a = clsNm b) : a = b := by
  have h1 : (clsNm a).cps = (clsNm b).cps := by rw [h]
  have h2 : (("!" : Str).cps ++ a.cps) = (("!" : Str).cps ++ b.cps) := h1
  have h3 : a.cps = b.cps := by
    have := congrArg Array.toList h2
    simp only [Array.toList_append] at this
    have := List.append_cancel_left this
    exact Array.toList_inj.mp this
  cases a; cases b; exact congrArg Str.mk h3
/-- the names of classes among the built-in ones are those of cs -/
def bsCs (bs cs : List Str) : Bool := bs.all fun b => !(b.cps[0]? == some 33) || cs.any fun c => clsNm c == b
theorem bsCs_ok {bs cs : List Str} (h : bsCs bs cs = true) {c : Str} (hc : clsNm c ∈ bs) : c ∈ cs := by
  have h1 := List.all_eq_true.mp h _ hc
  have h2 : ((clsNm c).cps[0]? == some 33) = true := by
    show ((("!" : Str).cps ++ c.cps)[0]? == some 33) = true
    rw [Array.getElem?_append_left (by decide)]
    decide
  rw [h2] at h1
  simp only [Bool.not_true, Bool.false_or, List.any_eq_true, beq_iff_eq] at h1
  obtain ⟨c', hm, e⟩ := h1
  rw [← clsNm_inj e]; exact hm
/-- what a class has, by name: a method, an __init__ to make it by, a field -/
inductive Cd where
  | m (c x : Str) | k (c : Str) | f (c x : Str)
  deriving DecidableEq
/-- it binds so many arguments -/
def BindM (x q : Str) (st : Stmt) (ps : List Str) : Prop := ∀ (kV doc pm : Value) (an : Option Addr) (cdv ct : Value) (us : List Value), us.length = ps.length → bindArgs (PySem.W.fnOf x q (defArgs st) (defBody st) (defScope st) .none kV doc pm an cdv ct) ⟨us, []⟩ = pure (ps.zip us)
/-- the text's side of a method -/
structure MTxt (fs bs : List Str) (x q : Str) (st : Stmt) (N ps : List Str) (e : Fn) : Prop where
  S : FnScope N ps (defScope st)
  h1 : ps.length = e.ps
  h2 : N.length = e.sl
  h3 : e.ps ≤ e.sl
  h4 : chkSs fs bs N (defScope st) e.body (defBody st) = true
  b : BindM x q st ps
/-- a class's def as the top has written it -/
structure InC (K : PySem.W.Frag) (C : Addr) (x q : Str) (st : Stmt) : Prop where
  ex : ∃ f kV doc pm an cdv ct oc od osl, PySem.W.findIn K (.ref C) x = some (some (.ref f)) ∧ PySem.W.isFn K (.ref f) = true ∧ PySem.W.keepIn K (.ref f) = true ∧
    K.lookup f = some ⟨oc, od, .func (PySem.W.fnOf x q (defArgs st) (defBody st) (defScope st) .none kV doc pm an cdv ct), osl⟩ ∧ PySem.W.codeIn K cdv q = true
theorem inC {K : PySem.W.Frag} {C : Addr} {x q : Str} {st : Stmt} {f : Addr} {oc : Value} {od an : Option Addr} {osl : Array (Option Value)} {kV doc pm cdv ct : Value} (a : PySem.W.findIn K (.ref C) x = some (some (.ref f))) (i : PySem.W.isFn K (.ref f) = true) (k : PySem.W.keepIn K (.ref f) = true)
    (l : K.lookup f = some ⟨oc, od, .func (PySem.W.fnOf x q (defArgs st) (defBody st) (defScope st) .none kV doc pm an cdv ct), osl⟩) (c : PySem.W.codeIn K cdv q = true) : InC K C x q st := ⟨f, kV, doc, pm, an, cdv, ct, oc, od, osl, a, i, k, l, c⟩
/-- a class as the top has written it -/
structure ClsA (K : PySem.W.Frag) (c : Str) (C : Addr) : Prop where
  ns : PySem.W.nsIn K mainGlobals c = some (some (.ref C))
  cl : L2.Cls K C
def CdOk (K : PySem.W.Frag) (fs bs : List Str) (Q : Pg) : Cd → Prop
  | .m c x => ∃ C q st N ps e, ClsA K c C ∧ mthQ c x = q ∧ InC K C x q st ∧ MTxt fs bs x q st N ps e ∧ Q.fn.lookup q = none ∧ Q.ms.lookup q = some e
  | .k c => ∃ C q st N ps e, ClsA K c C ∧ PySem.W.makesIn K C = true ∧ PySem.W.keepIn K (.ref C) = true ∧ mthQ c "__init__" = q ∧ InC K C "__init__" q st ∧ MTxt fs bs "__init__" q st N ps e ∧ Q.fn.lookup q = none ∧ Q.ms.lookup q = some e
  | .f c x => ∃ C, ClsA K c C ∧ PySem.W.findIn K (.ref C) x = some none
def CdsOk (K : PySem.W.Frag) (fs bs : List Str) (Q : Pg) : List Cd → Prop
  | [] => True
  | d :: r => CdOk K fs bs Q d ∧ CdsOk K fs bs Q r
theorem CdsOk.get {K : PySem.W.Frag} {fs bs : List Str} {Q : Pg} : ∀ {l : List Cd}, CdsOk K fs bs Q l → ∀ d ∈ l, CdOk K fs bs Q d
  | [], _, _, h => by cases h
  | y :: r, q, x, h => by
    rcases List.mem_cons.mp h with rfl | h
    · exact q.1
    · exact q.2.get x h
def cdsB (bs : List Str) (cds : List Cd) : Bool := bs.all fun b => (match decM b with
  | some p => decide (Cd.m p.1 p.2 ∈ cds)
  | none => true) && ((match decK b with
  | some p => decide (Cd.k p.1 ∈ cds)
  | none => true) && (match decF b with
  | some p => decide (Cd.f p.1 p.2 ∈ cds)
  | none => true))
theorem cdsB_ok {bs : List Str} {cds : List Cd} (h : cdsB bs cds = true) {b : Str} (hb : b ∈ bs) {c x : Str} : (decM b = some (c, x) → Cd.m c x ∈ cds) ∧ (decK b = some (c, x) → Cd.k c ∈ cds) ∧ (decF b = some (c, x) → Cd.f c x ∈ cds) := by
  have h1 := List.all_eq_true.mp h b hb
  simp only [Bool.and_eq_true] at h1
  obtain ⟨a, b2, d⟩ := h1
  exact ⟨fun e => by rw [e] at a; exact of_decide_eq_true a, fun e => by rw [e] at b2; exact of_decide_eq_true b2, fun e => by rw [e] at d; exact of_decide_eq_true d⟩
/-- what the program of a law needs, as its top has left it -/
structure Ready (P : Program) (K : PySem.W.Frag) (mg : Str → Option Value) (fs bs cs : List Str) (cds : List Cd) (Q : Pg) : Prop where
  cl : ClsL P K cs
  bi : BsOk mg bs
  gl : GlOk K mg Q.gl
  fn : DefsOk K mg fs bs Q.fn
  cd : CdsOk K fs bs Q cds
end
theorem ca_of {K : PySem.W.Frag} {c : Str} {C : Addr} (h : PySem.W.nsIn K mainGlobals c = some (some (.ref C))) : CAof K c = some C := by unfold CAof; rw [h]
theorem mo_of {P : Program} {w : World} {K : PySem.W.Frag} {mg : Str → Option Value} {base h : Heap} {fs bs cs : List Str} {cds : List Cd} {Q : Pg} {M : Nat} (X : K.In h) (Gn : h.Ns mainGlobals mg) (R : Ready P K mg fs bs cs cds Q) (hcs : bsCs bs cs = true) (hcd : cdsB bs cds = true) (hf : fs.all fun f => (Q.fn.lookup f).isSome) :
    ∀ n, Mo K (CAof K) P w mg base fs bs (fun x => Q.gl.lookup x) (Q.call M n) (2 * n + 2) :=
  pg_sound (fun c hc => (R.cl.get c (bsCs_ok hcs hc)).ok X Gn) R.bi.get (R.gl.get) R.fn.get (fun f hm => by
    have := List.all_eq_true.mp hf f hm
    cases q : Q.fn.lookup f with
    | none => rw [q] at this; cases this
    | some e => exact ⟨e, rfl⟩)
    (fun b hb c m hd => by
      obtain ⟨C, q, st, N, ps, e, A, rfl, ⟨f, kV, doc, pm, an, cdv, ct, oc, od, osl, h1, h2, h3, h4, h5⟩, T, l1, l2⟩ := R.cd.get _ ((cdsB_ok hcd hb).1 hd)
      have F := fun_mk (st := st) h4 h5 h3
      exact ⟨e, l1, l2, ⟨C, st, f, _, N, ps, ca_of A.ns, A.cl, ⟨h1, h2, h3⟩, F, T.S, T.h1, T.h2, T.h3, T.h4, F.binds T.b⟩⟩)
    (fun b hb c m hd => by
      obtain ⟨C, q, st, N, ps, e, A, mk, kp, rfl, ⟨f, kV, doc, pm, an, cdv, ct, oc, od, osl, h1, h2, h3, h4, h5⟩, T, l1, l2⟩ := R.cd.get _ ((cdsB_ok hcd hb).2.1 hd)
      have F := fun_mk (st := st) h4 h5 h3
      exact ⟨e, l1, l2, ⟨C, st, f, _, N, ps, ca_of A.ns, PySem.W.mg_of X Gn A.ns, ⟨mk, h1, h2, kp⟩, F, T.S, T.h1, T.h2, T.h3, T.h4, F.binds T.b⟩⟩)
    (fun b hb c x hd => by
      obtain ⟨C, A, h⟩ := R.cd.get _ ((cdsB_ok hcd hb).2.2 hd)
      exact ⟨C, ca_of A.ns, A.cl, h⟩)
/-- what is promised of the law's def -/
def spLaw (K : PySem.W.Frag) : Sp := fun vs H Q E => ∃ (a : Addr) (ns : List Int), vs = [.ref a] ∧ Only H ∧ SqL K H a (ns.map V.int) ∧ ns.length ≤ 63 ∧ ∀ H', Q (.bl true) H'
theorem cx_none {P : Program} {w : World} (H : Hp) (s : Shared) (e : Value) (s' : Shared) : L2.CX P w [] H s (fun _ _ _ => False) e s' → False := by
  rintro ⟨_, _, _, _, _, _, _, _, _, _, _, _, h⟩
  exact h
theorem law_walk {l : PySem.W.OpenLaw} {q : Program} {loose : List Str} {XP : (Str → Option Value) → Heap → Prop} {YP : World → Heap → Prop} {d : DefRec} {K : Params → PySem.W.Frag} {fs bs cs N : List Str} {cds : List Cd} {Q : Pg} {n M : Nat} {st : Stmt} {e : Fn}
    (hn : l.most = some 63) (hdf : d.params.defaults = []) (hd : d.name = "law") (hr : Room (2 * n + 3) callerA) (hY : ∀ (w : World) (h : Heap), YP w h → (K w.params).In h)
    (hcs : bsCs bs cs = true) (hcd : cdsB bs cds = true) (hf : fs.all fun f => (Q.fn.lookup f).isSome) (T : DTxt fs bs "law" st N ["script"] e)
    (hQ : ∀ ns : List Int, ns.length ≤ 63 → ∃ o, runFn e (Q.call M n) (fun x => Q.gl.lookup x) M [.loc ns] [] = .ok (.bl true) o)
    (F : ∀ (w : World) (mg : Str → Option Value) (h : Heap), (K w.params).In h → h.Ns mainGlobals mg → Ready l.prog (K w.params) mg fs bs cs cds Q ∧ Known (K w.params) "law" st) :
    PySem.W.WalkO q loose XP YP l.row.toRowW d [] (fun f vs => PySem.call f vs) := by
  refine L2.walk_of (n := 63) (k := 2 * n + 3) (x := "script") (CX := fun w => L2.CX l.prog w) (sp := fun w => spLaw (K w.params)) hn (by decide) hdf hr hY (fun w mg fa h X G hfa => ?_) (fun w H a ns hl ho hS => ⟨a, ns, rfl, ho, hS, hl, fun _ => rfl⟩) fun w => cx_none
  obtain ⟨R, f, kV, doc, pm, an, cdv, ct, a, ⟨oc, od, osl, lk⟩, c, k⟩ := F w mg h X G
  rw [hd] at hfa
  have e1 := hfa.symm.trans (PySem.W.mg_of X G a)
  cases e1
  have Fu := fun_mk (st := st) lk c k
  refine ⟨_, fun s v => .of_eq (T.b kV doc pm an cdv ct [v] rfl), fun base _ _ => ?_⟩
  have mo : Mo (K w.params) (CAof (K w.params)) l.prog w mg base fs bs (fun x => Q.gl.lookup x) (Q.call M n) (2 * n + 2) := mo_of X G R hcs hcd hf n
  refine (fn_sound (M := M) Fu T.S T.h1 T.h2 T.h3 T.h4 mo).imp fun vs H Q' E ⟨p, ns, hv, ho, hS, hl, hq⟩ => ?_
  subst hv
  obtain ⟨W, obs, ds, r1, r2, r3, g⟩ := law_sp (E := E) (CA := CAof (K w.params)) ho hS (hQ ns hl)
  refine ⟨W, obs, ds, r1, r2, r3, ?_⟩
  cases hg : runFn e (Q.call M n) (fun x => Q.gl.lookup x) M ds obs with
  | ok d o =>
    rw [hg] at g
    intro v W' H' l1 h1 rv
    have := g v W' H' l1 h1 rv
    subst this; exact hq H'
  | ex cc x o => rw [hg] at g; exact g
  | bad => rw [hg] at g; exact g
end Mp

set_option Elab.async false
set_option linter.all false
set_option maxRecDepth 100000
set_option maxHeartbeats 4000000
/-! What a run computes: rules by which simp runs a text over data, step by step. -/
namespace Mp
open PySem PySem.Spec PyProof.Rows L2

/-! ### posts -/
def R.wp {α : Type} (x : R α) (P : α → Obs → Prop) : Prop := match x with
  | .ok a o => P a o
  | _ => False
@[simp] theorem R.wp_ok {α : Type} (a : α) (o : Obs) (P : α → Obs → Prop) : (R.ok a o).wp P = P a o := (rfl)
@[simp] theorem R.wp_bad {α : Type} (P : α → Obs → Prop) : (R.bad : R α).wp P = False := (rfl)
@[simp] theorem R.wp_ex {α : Type} (c : Str) (a : D) (o : Obs) (P : α → Obs → Prop) : (R.ex c a o : R α).wp P = False := (rfl)
theorem R.wp_bind {α β : Type} {x : R α} {f : α → Obs → R β} {P : β → Obs → Prop} (h : x.wp fun a o => (f a o).wp P) : (x.bind f).wp P := by
  cases x <;> first | exact h | exact h.elim
theorem R.wp_imp {α : Type} {x : R α} {P P' : α → Obs → Prop} (h : x.wp P) (i : ∀ a o, P a o → P' a o) : x.wp P' := by
  cases x <;> first | exact i _ _ h | exact h.elim
theorem R.wp_eq {α : Type} {x : R α} {P : α → Obs → Prop} (h : x.wp P) : ∃ a o, x = .ok a o ∧ P a o := by
  cases x with
  | ok a o => exact ⟨a, o, rfl, h⟩
  | _ => exact h.elim
theorem R.wp_of {α : Type} {x : R α} {a : α} {o : Obs} {P : α → Obs → Prop} (h : x = .ok a o) (q : P a o) : x.wp P := by rw [h]; exact q
structure Pt where
  nx : Env → Obs → Prop := fun _ _ => False
  rt : D → Obs → Prop := fun _ _ => False
  bk : Env → Obs → Prop := fun _ _ => False
  ct : Env → Obs → Prop := fun _ _ => False
def RS.wp (x : RS) (P : Pt) : Prop := match x with
  | .nx e o => P.nx e o
  | .rt d o => P.rt d o
  | .bk e o => P.bk e o
  | .ct e o => P.ct e o
  | _ => False
@[simp] theorem RS.wp_nx (e : Env) (o : Obs) (P : Pt) : (RS.nx e o).wp P = P.nx e o := (rfl)
@[simp] theorem RS.wp_rt (e : D) (o : Obs) (P : Pt) : (RS.rt e o).wp P = P.rt e o := (rfl)
@[simp] theorem RS.wp_bk (e : Env) (o : Obs) (P : Pt) : (RS.bk e o).wp P = P.bk e o := (rfl)
@[simp] theorem RS.wp_ct (e : Env) (o : Obs) (P : Pt) : (RS.ct e o).wp P = P.ct e o := (rfl)
@[simp] theorem RS.wp_bad (P : Pt) : RS.bad.wp P = False := (rfl)
theorem RS.wp_seq {x : RS} {f : Env → Obs → RS} {P : Pt} (h : x.wp { P with nx := fun e o => (f e o).wp P }) : (x.seq f).wp P := by
  cases x <;> exact h
theorem RS.wp_imp {x : RS} {P P' : Pt} (h : x.wp P) (a : ∀ e o, P.nx e o → P'.nx e o) (b : ∀ e o, P.rt e o → P'.rt e o) (c : ∀ e o, P.bk e o → P'.bk e o) (d : ∀ e o, P.ct e o → P'.ct e o) : x.wp P' := by
  cases x with
  | nx e o => exact a e o h
  | rt e o => exact b e o h
  | bk e o => exact c e o h
  | ct e o => exact d e o h
  | _ => exact h.elim
theorem R.wp_st {α : Type} {x : R α} {env : Env} {f : α → Obs → RS} {P : Pt} (h : x.wp fun a o => (f a o).wp P) : (x.st env f).wp P := by
  cases x <;> first | exact h | exact h.elim
/-! ### slots -/
@[simp] theorem getD_zero (d : D) (l : Env) : getD' (.v d :: l) 0 = some d := (rfl)
@[simp] theorem getD_succ (s : Sl) (l : Env) (i : Nat) : getD' (s :: l) (i + 1) = getD' l i := (rfl)
section
variable (Φ : Str → List D → Obs → R D) (G : Str → Option D) (env : Env) (o : Obs)
def notD : D → Option D | .bl b => some (.bl (!b)) | _ => none
def negD : D → Option D | .int i => some (.int (-i)) | _ => none
def seqD : D → Option (List D) | .lst ds => some ds | .tup ds => some ds | _ => none
def intD : D → Option Int | .int i => some i | _ => none
@[simp] theorem notD_bl (b : Bool) : notD (.bl b) = some (.bl (!b)) := (rfl)
@[simp] theorem negD_int (b : Int) : negD (.int b) = some (.int (-b)) := (rfl)
@[simp] theorem seqD_lst (b : List D) : seqD (.lst b) = some b := (rfl)
@[simp] theorem seqD_tup (b : List D) : seqD (.tup b) = some b := (rfl)
@[simp] theorem intD_int (b : Int) : intD (.int b) = some b := (rfl)
def ifK {α : Type} (b : Bool) (x y : R α) : R α := if b then x else y
@[simp] theorem ifK_t {α : Type} (x y : R α) : ifK true x y = x := (rfl)
@[simp] theorem ifK_f {α : Type} (x y : R α) : ifK false x y = y := (rfl)
def ifS (b : Bool) (x y : RS) : RS := if b then x else y
@[simp] theorem ifS_t (x y : RS) : ifS true x y = x := (rfl)
@[simp] theorem ifS_f (x y : RS) : ifS false x y = y := (rfl)
def ifE (b : Bool) (x y : E) (env : Env) (o : Obs) : R D := if b then denE Φ G x env o else denE Φ G y env o
@[simp] theorem ifE_t (x y : E) : ifE Φ G true x y env o = denE Φ G x env o := (rfl)
@[simp] theorem ifE_f (x y : E) : ifE Φ G false x y env o = denE Φ G y env o := (rfl)
def ifT (b : Bool) (x y : E) (env : Env) (o : Obs) : R Bool := if b then denT Φ G x env o else denT Φ G y env o
@[simp] theorem ifT_t (x y : E) : ifT Φ G true x y env o = denT Φ G x env o := (rfl)
@[simp] theorem ifT_f (x y : E) : ifT Φ G false x y env o = denT Φ G y env o := (rfl)
/-- and then, or else -/
def kCon (es : Es) (env : Env) (x : D) (o : Obs) : R D := match x with | .bl true => denCon Φ G es env o | .bl false => .ok (.bl false) o | _ => .bad
def kDis (es : Es) (env : Env) (x : D) (o : Obs) : R D := match x with | .bl false => denDis Φ G es env o | .bl true => .ok (.bl true) o | _ => .bad
def kTC (es : Es) (env : Env) (x : Bool) (o : Obs) : R Bool := if x then denTC Φ G es env o else .ok false o
def kTD (es : Es) (env : Env) (x : Bool) (o : Obs) : R Bool := if x then .ok true o else denTD Φ G es env o
@[simp] theorem kCon_t (es : Es) : kCon Φ G es env (.bl true) o = denCon Φ G es env o := (rfl)
@[simp] theorem kCon_f (es : Es) : kCon Φ G es env (.bl false) o = .ok (.bl false) o := (rfl)
@[simp] theorem kDis_f (es : Es) : kDis Φ G es env (.bl false) o = denDis Φ G es env o := (rfl)
@[simp] theorem kDis_t (es : Es) : kDis Φ G es env (.bl true) o = .ok (.bl true) o := (rfl)
@[simp] theorem kTC_t (es : Es) : kTC Φ G es env true o = denTC Φ G es env o := (rfl)
@[simp] theorem kTC_f (es : Es) : kTC Φ G es env false o = .ok false o := (rfl)
@[simp] theorem kTD_f (es : Es) : kTD Φ G es env false o = denTD Φ G es env o := (rfl)
@[simp] theorem kTD_t (es : Es) : kTD Φ G es env true o = .ok true o := (rfl)
def kTru  (x : D) (o : Obs) : R Bool := R.opt o (truD x)
@[simp] theorem kTru_ap  (x : D) : kTru  x o = R.opt o (truD x) := (rfl)
def kBl  (k : Bool) (o : Obs) : R D := .ok (.bl k) o
@[simp] theorem kBl_ap  (k : Bool) : kBl  k o = .ok (.bl k) o := (rfl)
@[simp] theorem dE_lit (d : D) : denE Φ G (.lit d) env o = .ok d o := (rfl)
@[simp] theorem dE_var (i : Nat) : denE Φ G (.var i) env o = R.opt o (getD' env i) := (rfl)
@[simp] theorem dE_glob (x : Str) : denE Φ G (.glob x) env o = R.opt o (G x) := (rfl)
def kBin2 (op : Operator) (x : D) (y : D) (o : Obs) : R D := R.opt o (binD op x y)
@[simp] theorem kBin2_ap (op : Operator) (x : D) (y : D) : kBin2 op x y o = R.opt o (binD op x y) := (rfl)
def kBin1 (op : Operator) (b : E) (env : Env) (x : D) (o : Obs) : R D := (denE Φ G b env o).bind (kBin2 op x)
@[simp] theorem kBin1_ap (op : Operator) (b : E) (env : Env) (x : D) : kBin1 Φ G op b env x o = (denE Φ G b env o).bind (kBin2 op x) := (rfl)
@[simp] theorem dE_bin (op : Operator) (a b : E) : denE Φ G (.bin op a b) env o = (denE Φ G a env o).bind (kBin1 Φ G op b env) := (rfl)
def kCmp2 (op : CmpOp) (x : D) (y : D) (o : Obs) : R D := R.opt o ((cmpD op x y).map .bl)
@[simp] theorem kCmp2_ap (op : CmpOp) (x : D) (y : D) : kCmp2 op x y o = R.opt o ((cmpD op x y).map .bl) := (rfl)
def kCmp1 (op : CmpOp) (b : E) (env : Env) (x : D) (o : Obs) : R D := (denE Φ G b env o).bind (kCmp2 op x)
@[simp] theorem kCmp1_ap (op : CmpOp) (b : E) (env : Env) (x : D) : kCmp1 Φ G op b env x o = (denE Φ G b env o).bind (kCmp2 op x) := (rfl)
@[simp] theorem dE_cmp (op : CmpOp) (a b : E) : denE Φ G (.cmp op a b) env o = (denE Φ G a env o).bind (kCmp1 Φ G op b env) := (rfl)
def kTmp2 (op : CmpOp) (x : D) (y : D) (o : Obs) : R Bool := R.opt o (cmpD op x y)
@[simp] theorem kTmp2_ap (op : CmpOp) (x : D) (y : D) : kTmp2 op x y o = R.opt o (cmpD op x y) := (rfl)
def kTmp1 (op : CmpOp) (b : E) (env : Env) (x : D) (o : Obs) : R Bool := (denE Φ G b env o).bind (kTmp2 op x)
@[simp] theorem kTmp1_ap (op : CmpOp) (b : E) (env : Env) (x : D) : kTmp1 Φ G op b env x o = (denE Φ G b env o).bind (kTmp2 op x) := (rfl)
@[simp] theorem dT_cmp (op : CmpOp) (a b : E) : denT Φ G (.cmp op a b) env o = (denE Φ G a env o).bind (kTmp1 Φ G op b env) := by
  show (R.bind _ _).bind _ = _
  rw [R.bind_assoc]
  congr 1; funext x o; rw [R.bind_assoc]
  show _ = (denE Φ G b env o).bind _
  congr 1; funext y o
  show (R.opt o ((cmpD op x y).map D.bl)).bind _ = R.opt o (cmpD op x y)
  cases cmpD op x y <;> rfl
def kChn3 (o2 : CmpOp) (c : E) (env : Env) (y : D) (k : Bool) (o : Obs) : R D := (if k then (denE Φ G c env o).bind (kCmp2 o2 y) else .ok (.bl false) o)
@[simp] theorem kChn3_ap (o2 : CmpOp) (c : E) (env : Env) (y : D) (k : Bool) : kChn3 Φ G o2 c env y k o = (if k then (denE Φ G c env o).bind (kCmp2 o2 y) else .ok (.bl false) o) := (rfl)
def kChn2 (o1 : CmpOp) (o2 : CmpOp) (c : E) (env : Env) (x : D) (y : D) (o : Obs) : R D := (R.opt o (cmpD o1 x y)).bind (kChn3 Φ G o2 c env y)
@[simp] theorem kChn2_ap (o1 : CmpOp) (o2 : CmpOp) (c : E) (env : Env) (x : D) (y : D) : kChn2 Φ G o1 o2 c env x y o = (R.opt o (cmpD o1 x y)).bind (kChn3 Φ G o2 c env y) := (rfl)
def kChn1 (o1 : CmpOp) (o2 : CmpOp) (b : E) (c : E) (env : Env) (x : D) (o : Obs) : R D := (denE Φ G b env o).bind (kChn2 Φ G o1 o2 c env x)
@[simp] theorem kChn1_ap (o1 : CmpOp) (o2 : CmpOp) (b : E) (c : E) (env : Env) (x : D) : kChn1 Φ G o1 o2 b c env x o = (denE Φ G b env o).bind (kChn2 Φ G o1 o2 c env x) := (rfl)
@[simp] theorem dE_chn (o1 o2 : CmpOp) (a b c : E) : denE Φ G (.chn o1 o2 a b c) env o = (denE Φ G a env o).bind (kChn1 Φ G o1 o2 b c env) := by
  show (denE Φ G a env o).bind _ = _
  congr 1; funext x o; show (denE Φ G b env o).bind _ = (denE Φ G b env o).bind _
  congr 1; funext y o
  show _ = (R.opt o (cmpD o1 x y)).bind _
  cases cmpD o1 x y with
  | none => rfl
  | some k => cases k <;> rfl
def kNot  (x : D) (o : Obs) : R D := R.opt o (notD x)
@[simp] theorem kNot_ap  (x : D) : kNot  x o = R.opt o (notD x) := (rfl)
@[simp] theorem dE_not (a : E) : denE Φ G (.not a) env o = (denE Φ G a env o).bind kNot := by
  show (denE Φ G a env o).bind _ = _
  congr 1; funext x o; cases x <;> rfl
def kNeg  (x : D) (o : Obs) : R D := R.opt o (negD x)
@[simp] theorem kNeg_ap  (x : D) : kNeg  x o = R.opt o (negD x) := (rfl)
@[simp] theorem dE_neg (a : E) : denE Φ G (.neg a) env o = (denE Φ G a env o).bind kNeg := by
  show (denE Φ G a env o).bind _ = _
  congr 1; funext x o; cases x <;> rfl
@[simp] theorem dE_con (es : Es) : denE Φ G (.con es) env o = denCon Φ G es env o := (rfl)
@[simp] theorem dE_dis (es : Es) : denE Φ G (.dis es) env o = denDis Φ G es env o := (rfl)
def kIfe (a : E) (b : E) (env : Env) (k : Bool) (o : Obs) : R D := ifE Φ G k a b env o
@[simp] theorem kIfe_ap (a : E) (b : E) (env : Env) (k : Bool) : kIfe Φ G a b env k o = ifE Φ G k a b env o := (rfl)
@[simp] theorem dE_ife (c a b : E) : denE Φ G (.ife c a b) env o = (denT Φ G c env o).bind (kIfe Φ G a b env) := (rfl)
def kTife (a : E) (b : E) (env : Env) (k : Bool) (o : Obs) : R Bool := ifT Φ G k a b env o
@[simp] theorem kTife_ap (a : E) (b : E) (env : Env) (k : Bool) : kTife Φ G a b env k o = ifT Φ G k a b env o := (rfl)
@[simp] theorem dT_ife (c a b : E) : denT Φ G (.ife c a b) env o = (denT Φ G c env o).bind (kTife Φ G a b env) := (rfl)
def kTup  (ds : List D) (o : Obs) : R D := (if ds.length ≤ sizeLine then .ok (.tup ds) o else .bad)
@[simp] theorem kTup_ap  (ds : List D) : kTup  ds o = (if ds.length ≤ sizeLine then .ok (.tup ds) o else .bad) := (rfl)
@[simp] theorem dE_tup (es : Es) : denE Φ G (.tup es) env o = (denEs Φ G es env o).bind kTup := (rfl)
def kLst  (ds : List D) (o : Obs) : R D := (if ds.length ≤ sizeLine then .ok (.lst ds) o else .bad)
@[simp] theorem kLst_ap  (ds : List D) : kLst  ds o = (if ds.length ≤ sizeLine then .ok (.lst ds) o else .bad) := (rfl)
@[simp] theorem dE_lst (es : Es) : denE Φ G (.lst es) env o = (denEs Φ G es env o).bind kLst := (rfl)
def kIx2 (x : D) (y : D) (o : Obs) : R D := R.opt o (ixD x y)
@[simp] theorem kIx2_ap (x : D) (y : D) : kIx2 x y o = R.opt o (ixD x y) := (rfl)
def kIx1 (b : E) (env : Env) (x : D) (o : Obs) : R D := (denE Φ G b env o).bind (kIx2 x)
@[simp] theorem kIx1_ap (b : E) (env : Env) (x : D) : kIx1 Φ G b env x o = (denE Φ G b env o).bind (kIx2 x) := (rfl)
@[simp] theorem dE_ix (a b : E) : denE Φ G (.ix a b) env o = (denE Φ G a env o).bind (kIx1 Φ G b env) := (rfl)
def kSl3 (x : D) (l : Option Int) (h : Option Int) (o : Obs) : R D := R.opt o (slD x l h)
@[simp] theorem kSl3_ap (x : D) (l : Option Int) (h : Option Int) : kSl3 x l h o = R.opt o (slD x l h) := (rfl)
def kSl2 (hi : Eo) (env : Env) (x : D) (l : Option Int) (o : Obs) : R D := (denO Φ G hi env o).bind (kSl3 x l)
@[simp] theorem kSl2_ap (hi : Eo) (env : Env) (x : D) (l : Option Int) : kSl2 Φ G hi env x l o = (denO Φ G hi env o).bind (kSl3 x l) := (rfl)
def kSl1 (lo : Eo) (hi : Eo) (env : Env) (x : D) (o : Obs) : R D := (denO Φ G lo env o).bind (kSl2 Φ G hi env x)
@[simp] theorem kSl1_ap (lo : Eo) (hi : Eo) (env : Env) (x : D) : kSl1 Φ G lo hi env x o = (denO Φ G lo env o).bind (kSl2 Φ G hi env x) := (rfl)
@[simp] theorem dE_sl (a : E) (lo hi : Eo) : denE Φ G (.sl a lo hi) env o = (denE Φ G a env o).bind (kSl1 Φ G lo hi env) := (rfl)
def kRev  (x : D) (o : Obs) : R D := R.opt o (revD x)
@[simp] theorem kRev_ap  (x : D) : kRev  x o = R.opt o (revD x) := (rfl)
@[simp] theorem dE_rev (a : E) : denE Φ G (.rev a) env o = (denE Φ G a env o).bind kRev := (rfl)
@[simp] theorem dE_call (f : Str) (es : Es) : denE Φ G (.call f es) env o = (denEs Φ G es env o).bind (Φ f) := (rfl)
def kBi (f : String) (ds : List D) (o : Obs) : R D := R.opt o (biD f ds)
@[simp] theorem kBi_ap (f : String) (ds : List D) : kBi f ds o = R.opt o (biD f ds) := (rfl)
@[simp] theorem dE_bi (f : String) (es : Es) : denE Φ G (.bi f es) env o = (denEs Φ G es env o).bind (kBi f) := (rfl)
def kIsi (t : String) (x : D) (o : Obs) : R D := R.opt o ((isiD t x).map .bl)
@[simp] theorem kIsi_ap (t : String) (x : D) : kIsi t x o = R.opt o ((isiD t x).map .bl) := (rfl)
@[simp] theorem dE_isi (a : E) (t : String) : denE Φ G (.isi a t) env o = (denE Φ G a env o).bind (kIsi t) := (rfl)
def kTisi (t : String) (x : D) (o : Obs) : R Bool := R.opt o (isiD t x)
@[simp] theorem kTisi_ap (t : String) (x : D) : kTisi t x o = R.opt o (isiD t x) := (rfl)
@[simp] theorem dT_isi (a : E) (t : String) : denT Φ G (.isi a t) env o = (denE Φ G a env o).bind (kTisi t) := by
  show (R.bind _ _).bind _ = _
  rw [R.bind_assoc]
  congr 1; funext x o
  show (R.opt o ((isiD t x).map D.bl)).bind _ = R.opt o (isiD t x)
  cases isiD t x <;> rfl
def kLc (x : E) (tg : Tg) (c : Eo) (own : List (Str × Nat)) (env : Env) (ds : List D) (o : Obs) : R (List D) := lcD (own.map (·.2)) tg (denC Φ G c) (denE Φ G x) env ds [] o
@[simp] theorem kLc_ap (x : E) (tg : Tg) (c : Eo) (own : List (Str × Nat)) (env : Env) (ds : List D) : kLc Φ G x tg c own env ds o = lcD (own.map (·.2)) tg (denC Φ G c) (denE Φ G x) env ds [] o := (rfl)
@[simp] theorem dE_lc (x : E) (tg : Tg) (it : It) (c : Eo) (own : List (Str × Nat)) : denE Φ G (.lc x tg it c own) env o = ((denI Φ G it env o).bind (kLc Φ G x tg c own env)).map .lst := (rfl)
@[simp] theorem dF_lc (x : E) (tg : Tg) (it : It) (c : Eo) (own : List (Str × Nat)) : denF Φ G (.lc x tg it c own) env o = (denI Φ G it env o).bind (kLc Φ G x tg c own env) := (rfl)
def kLc2 (x : E) (tg : Tg) (c : Eo) (tg1 : Tg) (it1 : It) (c1 : Eo) (own : List (Str × Nat)) (vs1 : List Nat) (env : Env) (ds : List D) (o : Obs) : R (List D) := lc2D (own.map (·.2)) vs1 tg (denC Φ G c) (denI Φ G it1) tg1 (denC Φ G c1) (denE Φ G x) env ds [] o
@[simp] theorem kLc2_ap (x : E) (tg : Tg) (c : Eo) (tg1 : Tg) (it1 : It) (c1 : Eo) (own : List (Str × Nat)) (vs1 : List Nat) (env : Env) (ds : List D) : kLc2 Φ G x tg c tg1 it1 c1 own vs1 env ds o = lc2D (own.map (·.2)) vs1 tg (denC Φ G c) (denI Φ G it1) tg1 (denC Φ G c1) (denE Φ G x) env ds [] o := (rfl)
@[simp] theorem dE_lc2 (x : E) (tg : Tg) (it : It) (c : Eo) (tg1 : Tg) (it1 : It) (c1 : Eo) (own : List (Str × Nat)) (vs1 : List Nat) : denE Φ G (.lc2 x tg it c tg1 it1 c1 own vs1) env o = ((denI Φ G it env o).bind (kLc2 Φ G x tg c tg1 it1 c1 own vs1 env)).map .lst := (rfl)
def kSset  (x : D) (o : Obs) : R D := R.opt o (ssetD x)
@[simp] theorem kSset_ap  (x : D) : kSset  x o = R.opt o (ssetD x) := (rfl)
@[simp] theorem dE_sset (a : E) : denE Φ G (.sset a) env o = (denE Φ G a env o).bind kSset := (rfl)
def kSdic  (x : D) (o : Obs) : R D := R.opt o (sdicD x)
@[simp] theorem kSdic_ap  (x : D) : kSdic  x o = R.opt o (sdicD x) := (rfl)
@[simp] theorem dE_sdic (a : E) : denE Φ G (.sdic a) env o = (denE Φ G a env o).bind kSdic := (rfl)
def kOixd (i : Int) (ds : List D) (o : Obs) : R D := R.opt o (atI ds i)
@[simp] theorem kOixd_ap (i : Int) (ds : List D) : kOixd i ds o = R.opt o (atI ds i) := (rfl)
def kOixi (x : D) (i : Int) (o : Obs) : R D := (R.opt o (lsO o x)).bind (kOixd i)
@[simp] theorem kOixi_ap (x : D) (i : Int) : kOixi x i o = (R.opt o (lsO o x)).bind (kOixd i) := (rfl)
def kOix2 (x : D) (y : D) (o : Obs) : R D := (R.opt o (intD y)).bind (kOixi x)
@[simp] theorem kOix2_ap (x : D) (y : D) : kOix2 x y o = (R.opt o (intD y)).bind (kOixi x) := (rfl)
def kOix1 (b : E) (env : Env) (x : D) (o : Obs) : R D := (denE Φ G b env o).bind (kOix2 x)
@[simp] theorem kOix1_ap (b : E) (env : Env) (x : D) : kOix1 Φ G b env x o = (denE Φ G b env o).bind (kOix2 x) := (rfl)
@[simp] theorem dE_oix (a b : E) : denE Φ G (.oix a b) env o = (denE Φ G a env o).bind (kOix1 Φ G b env) := by
  show (denE Φ G a env o).bind _ = _
  congr 1; funext x o; show (denE Φ G b env o).bind _ = (denE Φ G b env o).bind _
  congr 1; funext y o
  cases y <;> first | rfl | skip
  rename_i i
  show R.opt o ((lsO o x).bind fun ds => atI ds i) = (R.opt o (lsO o x)).bind (kOixd i)
  cases lsO o x <;> rfl
def kOlen  (x : D) (o : Obs) : R D := R.opt o ((lsO o x).map fun ds => .int ds.length)
@[simp] theorem kOlen_ap  (x : D) : kOlen  x o = R.opt o ((lsO o x).map fun ds => .int ds.length) := (rfl)
@[simp] theorem dE_olen (a : E) : denE Φ G (.olen a) env o = (denE Φ G a env o).bind kOlen := (rfl)
def kOnew  (ds : List D) (o : Obs) : R D := (if ds.length ≤ sizeLine then .ok (.obj o.length) (o ++ [.ls ds]) else .bad)
@[simp] theorem kOnew_ap  (ds : List D) : kOnew  ds o = (if ds.length ≤ sizeLine then .ok (.obj o.length) (o ++ [.ls ds]) else .bad) := (rfl)
@[simp] theorem dE_onew (es : Es) : denE Φ G (.onew es) env o = (denEs Φ G es env o).bind kOnew := (rfl)
def kOls  (ds : List D) (o : Obs) : R D := .ok (.obj o.length) (o ++ [.ls ds])
@[simp] theorem kOls_ap  (ds : List D) : kOls  ds o = .ok (.obj o.length) (o ++ [.ls ds]) := (rfl)
def kOlist  (x : D) (o : Obs) : R D := (R.opt o (seqD x)).bind kOls
@[simp] theorem kOlist_ap  (x : D) : kOlist  x o = (R.opt o (seqD x)).bind kOls := (rfl)
@[simp] theorem dE_olist (a : E) : denE Φ G (.olist a) env o = (denE Φ G a env o).bind kOlist := by
  show (denE Φ G a env o).bind _ = _
  congr 1; funext x o; cases x <;> rfl
def kOm4  (y : D × Obs) (o : Obs) : R D := .ok y.1 y.2
@[simp] theorem kOm4_ap  (y : D × Obs) : kOm4  y o = .ok y.1 y.2 := (rfl)
def kOm3 (m : String) (x : D) (d : D) (o : Obs) : R D := (R.opt o (omD m o x d)).bind kOm4
@[simp] theorem kOm3_ap (m : String) (x : D) (d : D) : kOm3 m x d o = (R.opt o (omD m o x d)).bind kOm4 := (rfl)
def kOm2 (m : String) (e : E) (env : Env) (x : D) (z : List D) (o : Obs) : R D := (denE Φ G e env o).bind (kOm3 m x)
@[simp] theorem kOm2_ap (m : String) (e : E) (env : Env) (x : D) (z : List D) : kOm2 Φ G m e env x z o = (denE Φ G e env o).bind (kOm3 m x) := (rfl)
def kOm1 (m : String) (e : E) (env : Env) (x : D) (o : Obs) : R D := (R.opt o (lsO o x)).bind (kOm2 Φ G m e env x)
@[simp] theorem kOm1_ap (m : String) (e : E) (env : Env) (x : D) : kOm1 Φ G m e env x o = (R.opt o (lsO o x)).bind (kOm2 Φ G m e env x) := (rfl)
@[simp] theorem dE_om (m : String) (a e : E) : denE Φ G (.om m a e) env o = (denE Φ G a env o).bind (kOm1 Φ G m e env) := by
  show (denE Φ G a env o).bind _ = _
  congr 1; funext x o
  show _ = (R.opt o (lsO o x)).bind _
  cases lsO o x with
  | none => rfl
  | some ds =>
    show (denE Φ G e env o).bind _ = (denE Φ G e env o).bind _
    congr 1; funext d o
    show _ = (R.opt o (omD m o x d)).bind _
    cases omD m o x d <;> rfl
def kBor  (d : D) (o : Obs) : R D := ifK (noL d && o.all noLO) (.ok d o) .bad
@[simp] theorem kBor_ap  (d : D) : kBor  d o = ifK (noL d && o.all noLO) (.ok d o) .bad := (rfl)
def kTbor  (d : Bool) (o : Obs) : R Bool := ifK (o.all noLO) (.ok d o) .bad
@[simp] theorem kTbor_ap  (d : Bool) : kTbor  d o = ifK (o.all noLO) (.ok d o) .bad := (rfl)
def lent (i : Nat) (env : Env) : Option Env := match env[i]? with | some (.ol ds) => some (env.set i (.v (.lst ds))) | _ => none
def kBor0 (e : E) (env : Env) (o : Obs) : R D := ((denE Φ G e env o).noex).bind kBor
@[simp] theorem kBor0_ap (e : E) (env : Env) : kBor0 Φ G e env o = ((denE Φ G e env o).noex).bind kBor := (rfl)
def kTbor0 (e : E) (env : Env) (o : Obs) : R Bool := ((denT Φ G e env o).noex).bind kTbor
@[simp] theorem kTbor0_ap (e : E) (env : Env) : kTbor0 Φ G e env o = ((denT Φ G e env o).noex).bind kTbor := (rfl)
@[simp] theorem dE_bor (i : Nat) (e : E) : denE Φ G (.bor i e) env o = (R.opt o (lent i env)).bind (kBor0 Φ G e) := by
  have : denE Φ G (.bor i e) env o = match env[i]? with
    | some (.ol ds) => ((denE Φ G e (env.set i (.v (.lst ds))) o).noex).bind fun d o => if noL d && o.all noLO then .ok d o else .bad
    | _ => .bad := rfl
  rw [this]; unfold lent
  cases env[i]? with
  | none => rfl
  | some s => cases s <;> rfl
@[simp] theorem dT_bor (i : Nat) (e : E) : denT Φ G (.bor i e) env o = (R.opt o (lent i env)).bind (kTbor0 Φ G e) := by
  have : denT Φ G (.bor i e) env o = match env[i]? with
    | some (.ol ds) => ((denT Φ G e (env.set i (.v (.lst ds))) o).noex).bind fun d o => if true && o.all noLO then .ok d o else .bad
    | _ => .bad := rfl
  rw [this]; unfold lent
  cases env[i]? with
  | none => rfl
  | some s => cases s <;> rfl
@[simp] theorem dEs_nil  : denEs Φ G .nil env o = .ok [] o := (rfl)
def kCons2 (x : D) (xs : List D) (o : Obs) : R (List D) := .ok (x :: xs) o
@[simp] theorem kCons2_ap (x : D) (xs : List D) : kCons2 x xs o = .ok (x :: xs) o := (rfl)
def kCons1 (r : Es) (env : Env) (x : D) (o : Obs) : R (List D) := (denEs Φ G r env o).bind (kCons2 x)
@[simp] theorem kCons1_ap (r : Es) (env : Env) (x : D) : kCons1 Φ G r env x o = (denEs Φ G r env o).bind (kCons2 x) := (rfl)
@[simp] theorem dEs_cons (e : E) (r : Es) : denEs Φ G (.cons e r) env o = (denE Φ G e env o).bind (kCons1 Φ G r env) := (rfl)
@[simp] theorem dCon_one (e : E) : denCon Φ G (.cons e .nil) env o = denE Φ G e env o := (rfl)
@[simp] theorem dCon_cons (e e2 : E) (r : Es) : denCon Φ G (.cons e (.cons e2 r)) env o = (denE Φ G e env o).bind (kCon Φ G (.cons e2 r) env) := (rfl)
@[simp] theorem dDis_one (e : E) : denDis Φ G (.cons e .nil) env o = denE Φ G e env o := (rfl)
@[simp] theorem dDis_cons (e e2 : E) (r : Es) : denDis Φ G (.cons e (.cons e2 r)) env o = (denE Φ G e env o).bind (kDis Φ G (.cons e2 r) env) := (rfl)
@[simp] theorem dTC_one (e : E) : denTC Φ G (.cons e .nil) env o = denT Φ G e env o := (rfl)
@[simp] theorem dTC_cons (e e2 : E) (r : Es) : denTC Φ G (.cons e (.cons e2 r)) env o = (denT Φ G e env o).bind (kTC Φ G (.cons e2 r) env) := (rfl)
@[simp] theorem dTD_one (e : E) : denTD Φ G (.cons e .nil) env o = denT Φ G e env o := (rfl)
@[simp] theorem dTD_cons (e e2 : E) (r : Es) : denTD Φ G (.cons e (.cons e2 r)) env o = (denT Φ G e env o).bind (kTD Φ G (.cons e2 r) env) := (rfl)
@[simp] theorem dT_con (es : Es) : denT Φ G (.con es) env o = denTC Φ G es env o := (rfl)
@[simp] theorem dT_dis (es : Es) : denT Φ G (.dis es) env o = denTD Φ G es env o := (rfl)
@[simp] theorem dT_not (a : E) : denT Φ G (.not a) env o = (denT Φ G a env o).map not := (rfl)
@[simp] theorem dT_lit (d : D) : denT Φ G (.lit d) env o = (denE Φ G (.lit d) env o).bind kTru := (rfl)
@[simp] theorem dT_var (i : Nat) : denT Φ G (.var i) env o = (denE Φ G (.var i) env o).bind kTru := (rfl)
@[simp] theorem dT_glob (x : Str) : denT Φ G (.glob x) env o = (denE Φ G (.glob x) env o).bind kTru := (rfl)
@[simp] theorem dT_bin (op : Operator) (a b : E) : denT Φ G (.bin op a b) env o = (denE Φ G (.bin op a b) env o).bind kTru := (rfl)
@[simp] theorem dT_chn (o1 o2 : CmpOp) (a b c : E) : denT Φ G (.chn o1 o2 a b c) env o = (denE Φ G (.chn o1 o2 a b c) env o).bind kTru := (rfl)
@[simp] theorem dT_ix (a b : E) : denT Φ G (.ix a b) env o = (denE Φ G (.ix a b) env o).bind kTru := (rfl)
@[simp] theorem dT_call (f : Str) (es : Es) : denT Φ G (.call f es) env o = (denE Φ G (.call f es) env o).bind kTru := (rfl)
@[simp] theorem dT_bi (f : String) (es : Es) : denT Φ G (.bi f es) env o = (denE Φ G (.bi f es) env o).bind kTru := (rfl)
def kOtup (x : D) (o : Obs) : R D := R.opt o ((lsO o x).map .tup)
@[simp] theorem kOtup_ap (x : D) : kOtup x o = R.opt o ((lsO o x).map .tup) := (rfl)
@[simp] theorem dE_otup (a : E) : denE Φ G (.otup a) env o = (denE Φ G a env o).bind kOtup := (rfl)
@[simp] theorem dT_otup (a : E) : denT Φ G (.otup a) env o = (denE Φ G (.otup a) env o).bind kTru := (rfl)
def kFld (c x : Str) (y : D) (o : Obs) : R D := R.opt o ((insO o c y).bind fun fs => fs.lookup x)
@[simp] theorem kFld_ap (c x : Str) (y : D) : kFld c x y o = R.opt o ((insO o c y).bind fun fs => fs.lookup x) := (rfl)
@[simp] theorem dE_fld (c x : Str) (a : E) : denE Φ G (.fld c x a) env o = (denE Φ G a env o).bind (kFld c x) := (rfl)
def kMcl1 (c m : Str) (y : D) (ds : List D) (o : Obs) : R D := Φ (mthQ c m) (y :: ds) o
@[simp] theorem kMcl1_ap (c m : Str) (y : D) (ds : List D) : kMcl1 Φ c m y ds o = Φ (mthQ c m) (y :: ds) o := (rfl)
def mclK (k : Option (List (Str × D))) (m : Str) (r : R D) : R D := match k with
  | some fs => if (fs.lookup m).isSome then .bad else r
  | none => .bad
@[simp] theorem mclK_some (fs : List (Str × D)) (m : Str) (r : R D) (h : fs.lookup m = none) : mclK (some fs) m r = r := by simp [mclK, h]
def kMcl0 (c m : Str) (es : Es) (env : Env) (y : D) (o : Obs) : R D := mclK (insO o c y) m ((denEs Φ G es env o).bind (kMcl1 Φ c m y))
@[simp] theorem kMcl0_ap (c m : Str) (es : Es) (env : Env) (y : D) : kMcl0 Φ G c m es env y o = mclK (insO o c y) m ((denEs Φ G es env o).bind (kMcl1 Φ c m y)) := (rfl)
@[simp] theorem dE_mcl (c m : Str) (a : E) (es : Es) : denE Φ G (.mcl c m a es) env o = (denE Φ G a env o).bind (kMcl0 Φ G c m es env) := (rfl)
def kMk2 (n : Nat) (r : D) (o2 : Obs) : R D := match r with
  | .non => .ok (.obj n) o2
  | _ => .bad
@[simp] theorem kMk2_ap (n : Nat) : kMk2 n .non o = .ok (.obj n) o := (rfl)
def kMk1 (c : Str) (ds : List D) (o : Obs) : R D := (Φ (mthQ c "__init__") (.obj o.length :: ds) (o ++ [.ins c []])).bind (kMk2 o.length)
@[simp] theorem kMk1_ap (c : Str) (ds : List D) : kMk1 Φ c ds o = (Φ (mthQ c "__init__") (.obj o.length :: ds) (o ++ [.ins c []])).bind (kMk2 o.length) := (rfl)
@[simp] theorem dE_mk (c : Str) (es : Es) : denE Φ G (.mk c es) env o = (denEs Φ G es env o).bind (kMk1 Φ c) := (rfl)
@[simp] theorem dT_fld (c x : Str) (a : E) : denT Φ G (.fld c x a) env o = (denE Φ G (.fld c x a) env o).bind kTru := (rfl)
@[simp] theorem dT_mcl (c m : Str) (a : E) (es : Es) : denT Φ G (.mcl c m a es) env o = (denE Φ G (.mcl c m a es) env o).bind kTru := (rfl)
@[simp] theorem dT_mk (c : Str) (es : Es) : denT Φ G (.mk c es) env o = (denE Φ G (.mk c es) env o).bind kTru := (rfl)
@[simp] theorem dT_oix (a b : E) : denT Φ G (.oix a b) env o = (denE Φ G (.oix a b) env o).bind kTru := (rfl)
@[simp] theorem dT_olen (a : E) : denT Φ G (.olen a) env o = (denE Φ G (.olen a) env o).bind kTru := (rfl)
@[simp] theorem dT_sl (a : E) (lo hi : Eo) : denT Φ G (.sl a lo hi) env o = (denE Φ G (.sl a lo hi) env o).bind kTru := (rfl)
@[simp] theorem dO_none  : denO Φ G .none env o = .ok none o := (rfl)
def kO  (x : D) (o : Obs) : R (Option Int) := R.opt o ((intD x).map some)
@[simp] theorem kO_ap  (x : D) : kO  x o = R.opt o ((intD x).map some) := (rfl)
@[simp] theorem dO_some (e : E) : denO Φ G (.some e) env o = (denE Φ G e env o).bind kO := by
  show (denE Φ G e env o).bind _ = _
  congr 1; funext x o; cases x <;> rfl
@[simp] theorem dC_none  : denC Φ G .none env o = .ok true o := (rfl)
@[simp] theorem dC_some (e : E) : denC Φ G (.some e) env o = denT Φ G e env o := (rfl)
def kSeq  (x : D) (o : Obs) : R (List D) := R.opt o (seqD x)
@[simp] theorem kSeq_ap  (x : D) : kSeq  x o = R.opt o (seqD x) := (rfl)
def kEnum (x : D) (o : Obs) : R (List D) := R.opt o ((seqD x).map enumD)
@[simp] theorem kEnum_ap (x : D) (o : Obs) : kEnum x o = R.opt o ((seqD x).map enumD) := (rfl)
@[simp] theorem dI_sq (e : E) : denI Φ G (.sq e) env o = (denE Φ G e env o).bind kSeq := by
  show (denE Φ G e env o).bind _ = _
  congr 1; funext x o; cases x <;> rfl
def kR1i (n : Int) (o : Obs) : R (List D) := cond (smallI n) (.ok (rangeD 0 n.toNat 1) o) .bad
theorem kR1i_ap (n : Int) : kR1i n o = cond (smallI n) (.ok (rangeD 0 n.toNat 1) o) .bad := (rfl)
@[simp] theorem kR1i_ok (n : Int) (h : smallI n = true) : kR1i n o = .ok (rangeD 0 n.toNat 1) o := by rw [kR1i_ap, h]; rfl
def kR1  (x : D) (o : Obs) : R (List D) := (R.opt o (intD x)).bind kR1i
@[simp] theorem kR1_ap  (x : D) : kR1  x o = (R.opt o (intD x)).bind kR1i := (rfl)
@[simp] theorem dI_en (e : E) : denI Φ G (.en e) env o = (denE Φ G e env o).bind kEnum := by
  show R.bind _ _ = R.bind _ _
  congr 1; funext x o
  cases x <;> rfl
@[simp] theorem dI_r1 (a : E) : denI Φ G (.r1 a) env o = (denE Φ G a env o).bind kR1 := by
  show (denE Φ G a env o).bind _ = _
  congr 1; funext x o; cases x <;> first | rfl | (rename_i n; show (if smallI n then _ else _) = kR1i n o; unfold kR1i; cases smallI n <;> rfl)
def kR2j (i j : Int) (o : Obs) : R (List D) := cond (smallI i && smallI j) (.ok (rangeD i (j - i).toNat 1) o) .bad
@[simp] theorem kR2j_ok (i j : Int) (h : smallI i = true) (h2 : smallI j = true) : kR2j i j o = .ok (rangeD i (j - i).toNat 1) o := by unfold kR2j; rw [h, h2]; rfl
def kR2i (y : D) (i : Int) (o : Obs) : R (List D) := (R.opt o (intD y)).bind (kR2j i)
@[simp] theorem kR2i_ap (y : D) (i : Int) : kR2i y i o = (R.opt o (intD y)).bind (kR2j i) := (rfl)
def kR2b (x : D) (y : D) (o : Obs) : R (List D) := (R.opt o (intD x)).bind (kR2i y)
@[simp] theorem kR2b_ap (x : D) (y : D) : kR2b x y o = (R.opt o (intD x)).bind (kR2i y) := (rfl)
def kR2a (b : E) (env : Env) (x : D) (o : Obs) : R (List D) := (denE Φ G b env o).bind (kR2b x)
@[simp] theorem kR2a_ap (b : E) (env : Env) (x : D) : kR2a Φ G b env x o = (denE Φ G b env o).bind (kR2b x) := (rfl)
@[simp] theorem dI_r2 (a b : E) : denI Φ G (.r2 a b) env o = (denE Φ G a env o).bind (kR2a Φ G b env) := by
  show (denE Φ G a env o).bind _ = _
  congr 1; funext x o; show (denE Φ G b env o).bind _ = (denE Φ G b env o).bind _
  congr 1; funext y o; cases x <;> first | rfl | (cases y <;> first | rfl | (rename_i i j; show (if smallI i && smallI j then _ else _) = kR2j i j o; unfold kR2j; cases (smallI i && smallI j) <;> rfl))
def rng3 (i j k : Int) : Option (List D) := cond (Builtin.Range.small i j k && decide (k ≠ 0 ∧ k.natAbs < 1073741824 ∧ 0 ≤ Builtin.Range.rangeSize i j k)) (some (rangeD i (Builtin.Range.rangeSize i j k).toNat k)) none
def kR3k (i j k : Int) (o : Obs) : R (List D) := R.opt o (rng3 i j k)
@[simp] theorem kR3k_ap (i j k : Int) : kR3k i j k o = R.opt o (rng3 i j k) := (rfl)
def kR3j (z : D) (i j : Int) (o : Obs) : R (List D) := (R.opt o (intD z)).bind (kR3k i j)
@[simp] theorem kR3j_ap (z : D) (i j : Int) : kR3j z i j o = (R.opt o (intD z)).bind (kR3k i j) := (rfl)
def kR3i (y z : D) (i : Int) (o : Obs) : R (List D) := (R.opt o (intD y)).bind (kR3j z i)
@[simp] theorem kR3i_ap (y z : D) (i : Int) : kR3i y z i o = (R.opt o (intD y)).bind (kR3j z i) := (rfl)
def kR3c (x : D) (y : D) (z : D) (o : Obs) : R (List D) := (R.opt o (intD x)).bind (kR3i y z)
@[simp] theorem kR3c_ap (x : D) (y : D) (z : D) : kR3c x y z o = (R.opt o (intD x)).bind (kR3i y z) := (rfl)
def kR3b (c : E) (env : Env) (x : D) (y : D) (o : Obs) : R (List D) := (denE Φ G c env o).bind (kR3c x y)
@[simp] theorem kR3b_ap (c : E) (env : Env) (x : D) (y : D) : kR3b Φ G c env x y o = (denE Φ G c env o).bind (kR3c x y) := (rfl)
def kR3a (b : E) (c : E) (env : Env) (x : D) (o : Obs) : R (List D) := (denE Φ G b env o).bind (kR3b Φ G c env x)
@[simp] theorem kR3a_ap (b : E) (c : E) (env : Env) (x : D) : kR3a Φ G b c env x o = (denE Φ G b env o).bind (kR3b Φ G c env x) := (rfl)
@[simp] theorem dI_r3 (a b c : E) : denI Φ G (.r3 a b c) env o = (denE Φ G a env o).bind (kR3a Φ G b c env) := by
  show (denE Φ G a env o).bind _ = _
  congr 1; funext x o; show (denE Φ G b env o).bind _ = (denE Φ G b env o).bind _
  congr 1; funext y o; show (denE Φ G c env o).bind _ = (denE Φ G c env o).bind _
  congr 1; funext z o; cases x <;> first | rfl | (cases y <;> first | rfl | (cases z <;> first | rfl | skip))
  rename_i i j k
  show (if Builtin.Range.small i j k && decide (k ≠ 0 ∧ k.natAbs < 1073741824 ∧ 0 ≤ Builtin.Range.rangeSize i j k) then _ else _) = R.opt o (rng3 i j k)
  unfold rng3
  cases (Builtin.Range.small i j k && decide (k ≠ 0 ∧ k.natAbs < 1073741824 ∧ 0 ≤ Builtin.Range.rangeSize i j k)) <;> rfl
def kDsp  (ds : List D) (o : Obs) : R (List D) := (if ds.length ≤ sizeLine then .ok ds o else .bad)
@[simp] theorem kDsp_ap  (ds : List D) : kDsp  ds o = (if ds.length ≤ sizeLine then .ok ds o else .bad) := (rfl)
@[simp] theorem dF_dsp (es : Es) : denF Φ G (.dsp es) env o = (denEs Φ G es env o).bind kDsp := (rfl)
@[simp] theorem dF_lo (e : E) : denF Φ G (.lo e) env o = (denE Φ G e env o).bind kSeq := by
  show (denE Φ G e env o).bind _ = _
  congr 1; funext x o; cases x <;> rfl
def kCat2 (x : D) (y : D) (o : Obs) : R (List D) := match x, y with | .lst p, .lst q => if p.length + q.length ≤ sizeLine then .ok (p ++ q) o else .bad | _, _ => .bad
@[simp] theorem kCat2_ap (p q : List D) : kCat2 (.lst p) (.lst q) o = if p.length + q.length ≤ sizeLine then .ok (p ++ q) o else .bad := (rfl)
def kCat1 (b : E) (env : Env) (x : D) (o : Obs) : R (List D) := (denE Φ G b env o).bind (kCat2 x)
@[simp] theorem kCat1_ap (b : E) (env : Env) (x : D) : kCat1 Φ G b env x o = (denE Φ G b env o).bind (kCat2 x) := (rfl)
@[simp] theorem dF_cat (a b : E) : denF Φ G (.cat a b) env o = (denE Φ G a env o).bind (kCat1 Φ G b env) := (rfl)
@[simp] theorem dPs_nil  : denPs Φ G [] env o = .ok [] o := (rfl)
def kPs2 (s : Sl) (xs : List Sl) (o : Obs) : R (List Sl) := .ok (s :: xs) o
@[simp] theorem kPs2_ap (s : Sl) (xs : List Sl) : kPs2 s xs o = .ok (s :: xs) o := (rfl)
def kPs1 (r : List (E ⊕ Fr)) (env : Env) (x : D) (o : Obs) : R (List Sl) := (denPs Φ G r env o).bind (kPs2 (.v x))
@[simp] theorem kPs1_ap (r : List (E ⊕ Fr)) (env : Env) (x : D) : kPs1 Φ G r env x o = (denPs Φ G r env o).bind (kPs2 (.v x)) := (rfl)
def kPs1f (r : List (E ⊕ Fr)) (env : Env) (x : List D) (o : Obs) : R (List Sl) := (denPs Φ G r env o).bind (kPs2 (.ol x))
@[simp] theorem kPs1f_ap (r : List (E ⊕ Fr)) (env : Env) (x : List D) : kPs1f Φ G r env x o = (denPs Φ G r env o).bind (kPs2 (.ol x)) := (rfl)
@[simp] theorem dPs_inl (e : E) (r : List (E ⊕ Fr)) : denPs Φ G (.inl e :: r) env o = (denE Φ G e env o).bind (kPs1 Φ G r env) := (rfl)
@[simp] theorem dPs_inr (e : Fr) (r : List (E ⊕ Fr)) : denPs Φ G (.inr e :: r) env o = (denF Φ G e env o).bind (kPs1f Φ G r env) := (rfl)
@[simp] theorem setSl_nil  : setSl [] [] env = some env := (rfl)
@[simp] theorem setSl_cons (i : Nat) (is : List Nat) (s : Sl) (ss : List Sl) : setSl (i :: is) (s :: ss) env = setSl is ss (env.set i s) := (rfl)
@[simp] theorem setTs_nil  : setTs [] [] env = some env := (rfl)
@[simp] theorem setTs_cons (i : Nat) (is : List Nat) (s : D) (ss : List D) : setTs (i :: is) (s :: ss) env = setTs is ss (env.set i (.v s)) := (rfl)
@[simp] theorem setTg_nm (i : Nat) (d : D) : setTg (.nm i) d env = some (env.set i (.v d)) := (rfl)
@[simp] theorem setTg_tp (ts : List Nat) (ds : List D) : setTg (.tp ts) (.tup ds) env = if ds.length = ts.length then setTs ts ds env else none := (rfl)
@[simp] theorem setTg_tt (ts : List (Nat ⊕ List Nat)) (ds : List D) : setTg (.tt ts) (.tup ds) env = if ds.length = ts.length then setTt ts ds env else none := (rfl)
@[simp] theorem setTt_nil : setTt [] [] env = some env := (rfl)
@[simp] theorem setTt_cons (t : Nat ⊕ List Nat) (ts : List (Nat ⊕ List Nat)) (d : D) (ds : List D) : setTt (t :: ts) (d :: ds) env = (setT1 t d env).bind (setTt ts ds) := (rfl)
@[simp] theorem setT1_inl (i : Nat) (d : D) : setT1 (.inl i) d env = some (env.set i (.v d)) := (rfl)
@[simp] theorem setT1_inr (ts : List Nat) (ds : List D) : setT1 (.inr ts) (.tup ds) env = if ds.length = ts.length then setTs ts ds env else none := (rfl)
@[simp] theorem wipeE_nil  : wipeE env [] = env := (rfl)
@[simp] theorem wipeE_cons (v : Nat) (vs : List Nat) : wipeE env (v :: vs) = (wipeE env vs).set v .un := (rfl)
variable (N : Nat)
def slL (env : Env) (i : Nat) : Option (List D) := match env[i]? with | some (.ol ds) => some ds | _ => none
@[simp] theorem slL_zero (d : List D) (l : Env) : slL (.ol d :: l) 0 = some d := (rfl)
@[simp] theorem slL_succ (s : Sl) (l : Env) (i : Nat) : slL (s :: l) (i + 1) = slL l i := (rfl)
@[simp] theorem lent_zero (d : List D) (l : Env) : lent 0 (.ol d :: l) = some (.v (.lst d) :: l) := (rfl)
@[simp] theorem lent_succ (s : Sl) (l : Env) (i : Nat) : lent (i + 1) (s :: l) = (lent i l).map (s :: ·) := by
  unfold lent
  rw [List.getElem?_cons_succ]
  cases l[i]? with
  | none => rfl
  | some t => cases t <;> rfl
def qSet (i : Nat) (env : Env) (x : D) (o : Obs) : RS := .nx (env.set i (.v x)) o
@[simp] theorem qSet_ap (i : Nat) (env : Env) (x : D) : qSet i env x o = .nx (env.set i (.v x)) o := (rfl)
@[simp] theorem dS_set (i : Nat) (e : E) : denS Φ G N (.set i e) env o = (denE Φ G e env o).st env (qSet i env) := (rfl)
def qNew (i : Nat) (env : Env) (x : List D) (o : Obs) : RS := .nx (env.set i (.ol x)) o
@[simp] theorem qNew_ap (i : Nat) (env : Env) (x : List D) : qNew i env x o = .nx (env.set i (.ol x)) o := (rfl)
@[simp] theorem dS_new (i : Nat) (f : Fr) : denS Φ G N (.new i f) env o = (denF Φ G f env o).st env (qNew i env) := (rfl)
def qNx  (env : Env) (o : Obs) : RS := .nx env o
@[simp] theorem qNx_ap  (env : Env) : qNx  env o = .nx env o := (rfl)
def qTup (ts : List Nat) (env : Env) (x : D) (o : Obs) : RS := (R.opt o (setTg (.tp ts) x env)).st env qNx
@[simp] theorem qTup_ap (ts : List Nat) (env : Env) (x : D) : qTup ts env x o = (R.opt o (setTg (.tp ts) x env)).st env qNx := (rfl)
@[simp] theorem dS_tup (ts : List Nat) (e : E) : denS Φ G N (.tup ts e) env o = (denE Φ G e env o).st env (qTup ts env) := by
  show (denE Φ G e env o).st env _ = _
  congr 1; funext x o
  show (match setTg (.tp ts) x env with | some env => RS.nx env o | none => .bad) = (R.opt o (setTg (.tp ts) x env)).st env qNx
  cases setTg (.tp ts) x env <;> rfl
def qTgt (tg : Tg) (env : Env) (x : D) (o : Obs) : RS := (R.opt o (setTg tg x env)).st env qNx
@[simp] theorem qTgt_ap (tg : Tg) (env : Env) (x : D) : qTgt tg env x o = (R.opt o (setTg tg x env)).st env qNx := (rfl)
@[simp] theorem dS_tgt (tg : Tg) (e : E) : denS Φ G N (.tgt tg e) env o = (denE Φ G e env o).st env (qTgt tg env) := by
  show (denE Φ G e env o).st env _ = _
  congr 1; funext x o
  show (match setTg tg x env with | some env => RS.nx env o | none => .bad) = (R.opt o (setTg tg x env)).st env qNx
  cases setTg tg x env <;> rfl
def qPar (ts : List Nat) (env : Env) (xs : List Sl) (o : Obs) : RS := (R.opt o (setSl ts xs env)).st env qNx
@[simp] theorem qPar_ap (ts : List Nat) (env : Env) (xs : List Sl) : qPar ts env xs o = (R.opt o (setSl ts xs env)).st env qNx := (rfl)
@[simp] theorem dS_par (ts : List Nat) (es : List (E ⊕ Fr)) : denS Φ G N (.par ts es) env o = (denPs Φ G es env o).st env (qPar ts env) := by
  show (denPs Φ G es env o).st env _ = _
  congr 1; funext x o
  show (match setSl ts x env with | some env => RS.nx env o | none => .bad) = (R.opt o (setSl ts x env)).st env qNx
  cases setSl ts x env <;> rfl
def qAug (i : Nat) (op : Operator) (env : Env) (x : D) (y : D) (o : Obs) : RS := (R.opt o (augD op x y)).st env (qSet i env)
@[simp] theorem qAug_ap (i : Nat) (op : Operator) (env : Env) (x : D) (y : D) : qAug i op env x y o = (R.opt o (augD op x y)).st env (qSet i env) := (rfl)
def qAug0 (i : Nat) (op : Operator) (e : E) (env : Env) (x : D) (o : Obs) : RS := (denE Φ G e env o).st env (qAug i op env x)
@[simp] theorem qAug0_ap (i : Nat) (op : Operator) (e : E) (env : Env) (x : D) : qAug0 Φ G i op e env x o = (denE Φ G e env o).st env (qAug i op env x) := (rfl)
@[simp] theorem dS_aug (i : Nat) (op : Operator) (e : E) : denS Φ G N (.aug i op e) env o = (R.opt o (getD' env i)).st env (qAug0 Φ G i op e env) := by
  have : denS Φ G N (.aug i op e) env o = match env[i]? with
    | some (.v x) => (denE Φ G e env o).st env fun y o => match augD op x y with
      | some z => .nx (env.set i (.v z)) o
      | none => .bad
    | _ => .bad := rfl
  rw [this]; unfold getD'
  cases env[i]? with
  | none => rfl
  | some s =>
    cases s <;> first | rfl | skip
    rename_i d
    show (denE Φ G e env o).st env _ = (denE Φ G e env o).st env _
    congr 1; funext y o
    show (match augD op d y with | some z => RS.nx (env.set i (.v z)) o | none => .bad) = (R.opt o (augD op d y)).st env (qSet i env)
    cases augD op d y <;> rfl
def qApp (i : Nat) (env : Env) (ds : List D) (x : D) (o : Obs) : RS := (if ds.length < sizeLine then .nx (env.set i (.ol (ds ++ [x]))) o else .bad)
@[simp] theorem qApp_ap (i : Nat) (env : Env) (ds : List D) (x : D) : qApp i env ds x o = (if ds.length < sizeLine then .nx (env.set i (.ol (ds ++ [x]))) o else .bad) := (rfl)
def qApp0 (i : Nat) (e : E) (env : Env) (ds : List D) (o : Obs) : RS := (denE Φ G e env o).st env (qApp i env ds)
@[simp] theorem qApp0_ap (i : Nat) (e : E) (env : Env) (ds : List D) : qApp0 Φ G i e env ds o = (denE Φ G e env o).st env (qApp i env ds) := (rfl)
@[simp] theorem dS_app (i : Nat) (e : E) : denS Φ G N (.app i e) env o = (R.opt o (slL env i)).st env (qApp0 Φ G i e env) := by
  have : denS Φ G N (.app i e) env o = match env[i]? with
    | some (.ol ds) => (denE Φ G e env o).st env fun x o => if ds.length < sizeLine then .nx (env.set i (.ol (ds ++ [x]))) o else .bad
    | _ => .bad := rfl
  rw [this]; unfold slL
  cases env[i]? with
  | none => rfl
  | some s => cases s <;> rfl
def qPut4 (env : Env) (x : D) (y : D) (ds : List D) (n : Nat) (o : Obs) : RS := .nx env (setO o y (ds.set n x))
@[simp] theorem qPut4_ap (env : Env) (x : D) (y : D) (ds : List D) (n : Nat) : qPut4 env x y ds n o = .nx env (setO o y (ds.set n x)) := (rfl)
def qPut3 (env : Env) (x : D) (y : D) (j : Int) (ds : List D) (o : Obs) : RS := (R.opt o (ixN ds.length j)).st env (qPut4 env x y ds)
@[simp] theorem qPut3_ap (env : Env) (x : D) (y : D) (j : Int) (ds : List D) : qPut3 env x y j ds o = (R.opt o (ixN ds.length j)).st env (qPut4 env x y ds) := (rfl)
def qPut2 (env : Env) (x : D) (y : D) (j : Int) (o : Obs) : RS := (R.opt o (lsO o y)).st env (qPut3 env x y j)
@[simp] theorem qPut2_ap (env : Env) (x : D) (y : D) (j : Int) : qPut2 env x y j o = (R.opt o (lsO o y)).st env (qPut3 env x y j) := (rfl)
def qPutZ (env : Env) (x : D) (y : D) (z : D) (o : Obs) : RS := (R.opt o (intD z)).st env (qPut2 env x y)
@[simp] theorem qPutZ_ap (env : Env) (x : D) (y : D) (z : D) : qPutZ env x y z o = (R.opt o (intD z)).st env (qPut2 env x y) := (rfl)
def qPut1 (k : E) (env : Env) (x : D) (y : D) (o : Obs) : RS := (denE Φ G k env o).st env (qPutZ env x y)
@[simp] theorem qPut1_ap (k : E) (env : Env) (x : D) (y : D) : qPut1 Φ G k env x y o = (denE Φ G k env o).st env (qPutZ env x y) := (rfl)
def qPut0 (a : E) (k : E) (env : Env) (x : D) (o : Obs) : RS := (denE Φ G a env o).st env (qPut1 Φ G k env x)
@[simp] theorem qPut0_ap (a : E) (k : E) (env : Env) (x : D) : qPut0 Φ G a k env x o = (denE Φ G a env o).st env (qPut1 Φ G k env x) := (rfl)
def fputK (k : Option (List (Str × D))) (env : Env) (o : Obs) (c x : Str) (d y : D) : RS := match k with
  | some fs => if fs.length < 1000 then .nx env (setIns o c y (putD x d fs)) else .bad
  | none => .bad
@[simp] theorem fputK_some (fs : List (Str × D)) (env : Env) (o : Obs) (c x : Str) (d y : D) (h : fs.length < 1000) : fputK (some fs) env o c x d y = .nx env (setIns o c y (putD x d fs)) := if_pos h
def qFput1 (c x : Str) (env : Env) (d y : D) (o : Obs) : RS := fputK (insO o c y) env o c x d y
@[simp] theorem qFput1_ap (c x : Str) (env : Env) (d y : D) : qFput1 c x env d y o = fputK (insO o c y) env o c x d y := (rfl)
def qFput0 (c x : Str) (a : E) (env : Env) (d : D) (o : Obs) : RS := (denE Φ G a env o).st env (qFput1 c x env d)
@[simp] theorem qFput0_ap (c x : Str) (a : E) (env : Env) (d : D) : qFput0 Φ G c x a env d o = (denE Φ G a env o).st env (qFput1 c x env d) := (rfl)
@[simp] theorem dS_fput (c x : Str) (a e : E) : denS Φ G N (.fput c x a e) env o = (denE Φ G e env o).st env (qFput0 Φ G c x a env) := (rfl)
def qTfld1 (c : Str) (a : E) (env : Env) (x : Str) (xs : List Str) (d : D) (ds : List D) (y : D) (o : Obs) : RS := match insO o c y with
  | some fs => if fs.length < 1000 then fputsD c (denE Φ G a) xs ds env (setIns o c y (putD x d fs)) else .bad
  | none => .bad
def tfK (k : Option (List (Str × D))) (c : Str) (a : E) (env : Env) (x : Str) (xs : List Str) (d : D) (ds : List D) (y : D) (o : Obs) : RS := match k with
  | some fs => if fs.length < 1000 then fputsD c (denE Φ G a) xs ds env (setIns o c y (putD x d fs)) else .bad
  | none => .bad
@[simp] theorem tfK_some (fs : List (Str × D)) (c : Str) (a : E) (env : Env) (x : Str) (xs : List Str) (d : D) (ds : List D) (y : D) (o : Obs) (h : fs.length < 1000) : tfK Φ G (some fs) c a env x xs d ds y o = fputsD c (denE Φ G a) xs ds env (setIns o c y (putD x d fs)) := if_pos h
@[simp] theorem qTfld1_ap (c : Str) (a : E) (env : Env) (x : Str) (xs : List Str) (d : D) (ds : List D) (y : D) : qTfld1 Φ G c a env x xs d ds y o = tfK Φ G (insO o c y) c a env x xs d ds y o := (rfl)
@[simp] theorem fputsD_nil (c : Str) (a : E) : fputsD c (denE Φ G a) [] [] env o = .nx env o := (rfl)
@[simp] theorem fputsD_cons (c : Str) (a : E) (x : Str) (xs : List Str) (d : D) (ds : List D) : fputsD c (denE Φ G a) (x :: xs) (d :: ds) env o = (denE Φ G a env o).st env (qTfld1 Φ G c a env x xs d ds) := (rfl)
def qTfld0 (c : Str) (a : E) (xs : List Str) (env : Env) (x : D) (o : Obs) : RS := match x with
  | .tup ds => if ds.length = xs.length then fputsD c (denE Φ G a) xs ds env o else .bad
  | _ => .bad
@[simp] theorem qTfld0_ap (c : Str) (a : E) (xs : List Str) (env : Env) (ds : List D) : qTfld0 Φ G c a xs env (.tup ds) o = if ds.length = xs.length then fputsD c (denE Φ G a) xs ds env o else .bad := (rfl)
@[simp] theorem dS_tfld (c : Str) (a : E) (xs : List Str) (e : E) : denS Φ G N (.tfld c a xs e) env o = (denE Φ G e env o).st env (qTfld0 Φ G c a xs env) := (rfl)
def faugK (k : Option (List (Str × D))) (c x : Str) (op : Operator) (env : Env) (y : D) (i : Int) (d : D) (o : Obs) : RS := match d with
  | .int j => match addI op i j with
    | some z => match k with
      | some fs => if fs.length < 1000 then .nx env (setIns o c y (putD x (.int z) fs)) else .bad
      | none => .bad
    | none => .bad
  | _ => .bad
@[simp] theorem faugK_add (fs : List (Str × D)) (c x : Str) (env : Env) (y : D) (i j : Int) (h : fs.length < 1000) : faugK (some fs) c x .Add env y i (.int j) o = .nx env (setIns o c y (putD x (.int (i + j)) fs)) := if_pos h
@[simp] theorem faugK_sub (fs : List (Str × D)) (c x : Str) (env : Env) (y : D) (i j : Int) (h : fs.length < 1000) : faugK (some fs) c x .Sub env y i (.int j) o = .nx env (setIns o c y (putD x (.int (i - j)) fs)) := if_pos h
def qFaug2 (c x : Str) (op : Operator) (env : Env) (y : D) (i : Int) (d : D) (o : Obs) : RS := faugK (insO o c y) c x op env y i d o
@[simp] theorem qFaug2_ap (c x : Str) (op : Operator) (env : Env) (y : D) (i : Int) (d : D) : qFaug2 c x op env y i d o = faugK (insO o c y) c x op env y i d o := (rfl)
def faugL (k : Option D) (c x : Str) (op : Operator) (e : E) (env : Env) (y : D) (o : Obs) : RS := match k with
  | some (.int i) => (denE Φ G e env o).st env (qFaug2 c x op env y i)
  | _ => .bad
@[simp] theorem faugL_some (c x : Str) (op : Operator) (e : E) (env : Env) (y : D) (i : Int) : faugL Φ G (some (.int i)) c x op e env y o = (denE Φ G e env o).st env (qFaug2 c x op env y i) := (rfl)
def qFaug0 (c x : Str) (op : Operator) (e : E) (env : Env) (y : D) (o : Obs) : RS := faugL Φ G ((insO o c y).bind fun fs => fs.lookup x) c x op e env y o
@[simp] theorem qFaug0_ap (c x : Str) (op : Operator) (e : E) (env : Env) (y : D) : qFaug0 Φ G c x op e env y o = faugL Φ G ((insO o c y).bind fun fs => fs.lookup x) c x op e env y o := (rfl)
@[simp] theorem dS_faug (c x : Str) (op : Operator) (a e : E) : denS Φ G N (.faug c x op a e) env o = (denE Φ G a env o).st env (qFaug0 Φ G c x op e env) := by
  show (denE Φ G a env o).st env _ = (denE Φ G a env o).st env _
  congr 1
@[simp] theorem dS_oput (a k e : E) : denS Φ G N (.oput a k e) env o = (denE Φ G e env o).st env (qPut0 Φ G a k env) := by
  show (denE Φ G e env o).st env _ = _
  congr 1; funext x o; show (denE Φ G a env o).st env _ = (denE Φ G a env o).st env _
  congr 1; funext y o; show (denE Φ G k env o).st env _ = (denE Φ G k env o).st env _
  congr 1; funext z o
  cases z <;> first | rfl | skip
  rename_i j
  show (match lsO o y with | some ds => (match ixN ds.length j with | some n => RS.nx env (setO o y (ds.set n x)) | none => .bad) | none => .bad) = (R.opt o (lsO o y)).st env (qPut3 env x y j)
  cases lsO o y with
  | none => rfl
  | some ds =>
    show (match ixN ds.length j with | some n => RS.nx env (setO o y (ds.set n x)) | none => .bad) = (R.opt o (ixN ds.length j)).st env (qPut4 env x y ds)
    cases ixN ds.length j <;> rfl
def qRet  (x : D) (o : Obs) : RS := .rt x o
@[simp] theorem qRet_ap  (x : D) : qRet  x o = .rt x o := (rfl)
@[simp] theorem dS_ret (e : E) : denS Φ G N (.ret e) env o = (denE Φ G e env o).st env qRet := (rfl)
@[simp] theorem dS_ret0  : denS Φ G N .ret0 env o = .rt .non o := (rfl)
def qMv  (ds : List D) (o : Obs) : RS := .rt (.lst ds) o
@[simp] theorem qMv_ap  (ds : List D) : qMv  ds o = .rt (.lst ds) o := (rfl)
@[simp] theorem dS_mv (i : Nat) : denS Φ G N (.mv i) env o = (R.opt o (slL env i)).st env qMv := by
  have : denS Φ G N (.mv i) env o = match env[i]? with
    | some (.ol ds) => .rt (.lst ds) o
    | _ => .bad := rfl
  rw [this]; unfold slL
  cases env[i]? with
  | none => rfl
  | some s => cases s <;> rfl
def ifSs (b : Bool) (x y : Ss) (env : Env) (o : Obs) : RS := if b then denSs Φ G N x env o else denSs Φ G N y env o
@[simp] theorem ifSs_t (x y : Ss) : ifSs Φ G N true x y env o = denSs Φ G N x env o := (rfl)
@[simp] theorem ifSs_f (x y : Ss) : ifSs Φ G N false x y env o = denSs Φ G N y env o := (rfl)
def qIfe (a : Ss) (b : Ss) (env : Env) (k : Bool) (o : Obs) : RS := ifSs Φ G N k a b env o
@[simp] theorem qIfe_ap (a : Ss) (b : Ss) (env : Env) (k : Bool) : qIfe Φ G N a b env k o = ifSs Φ G N k a b env o := (rfl)
@[simp] theorem dS_ife (c : E) (a b : Ss) : denS Φ G N (.ife c a b) env o = (denT Φ G c env o).st env (qIfe Φ G N a b env) := (rfl)
@[simp] theorem dS_whl (c : E) (b : Ss) : denS Φ G N (.whl c b) env o = whileD (denT Φ G c) (denSs Φ G N b) N env o := (rfl)
def qFor (tg : Tg) (b : Ss) (env : Env) (ds : List D) (o : Obs) : RS := forD tg (denSs Φ G N b) ds env o
@[simp] theorem qFor_ap (tg : Tg) (b : Ss) (env : Env) (ds : List D) : qFor Φ G N tg b env ds o = forD tg (denSs Φ G N b) ds env o := (rfl)
@[simp] theorem dS_for (tg : Tg) (it : It) (b : Ss) : denS Φ G N (.for_ tg it b) env o = (denI Φ G it env o).st env (qFor Φ G N tg b env) := (rfl)
def qExp (env : Env) (x : D) (o : Obs) : RS := .nx env o
@[simp] theorem qExp_ap (env : Env) (x : D) : qExp env x o = .nx env o := (rfl)
@[simp] theorem dS_exp (e : E) : denS Φ G N (.exp e) env o = (denE Φ G e env o).st env (qExp env) := (rfl)
@[simp] theorem raiseD_int (c : Str) (env : Env) (i : Int) (o : Obs) : raiseD c env (.int i) o = if i.natAbs < 1000000 then .ex c (.int i) env o else .bad := (rfl)
@[simp] theorem dS_rse (c : Str) (e : E) : denS Φ G N (.rse c e) env o = (denE Φ G e env o).st env (raiseD c env) := (rfl)
@[simp] theorem dS_trye (b : Ss) (c : Str) (h : Hd) : denS Φ G N (.trye b c h) env o = tryD c h (denSs Φ G N b env o) := (rfl)
@[simp] theorem tryD_nx (c : Str) (h : Hd) (env : Env) (o : Obs) : tryD c h (.nx env o) = .nx env o := (rfl)
@[simp] theorem tryD_rt (c : Str) (h : Hd) (d : D) (o : Obs) : tryD c h (.rt d o) = .rt d o := (rfl)
@[simp] theorem tryD_bk (c : Str) (h : Hd) (env : Env) (o : Obs) : tryD c h (.bk env o) = .bk env o := (rfl)
@[simp] theorem tryD_ct (c : Str) (h : Hd) (env : Env) (o : Obs) : tryD c h (.ct env o) = .ct env o := (rfl)
@[simp] theorem tryD_bad (c : Str) (h : Hd) : tryD c h .bad = .bad := (rfl)
@[simp] theorem tryD_ex (c : Str) (h : Hd) (a : D) (env : Env) (o : Obs) : tryD c h (.ex c a env o) = denHd h a env o := if_pos rfl
@[simp] theorem denHd_fld (i j : Nat) (k : Int) (env : Env) (o : Obs) : denHd (.fld i j) (.int k) env o = if i < env.length then .nx (((env.set i .un).set j (.v (.int k))).set i .un) o else .bad := (rfl)
@[simp] theorem denHd_set (j : Nat) (d a : D) (env : Env) (o : Obs) : denHd (.set j d) a env o = .nx (env.set j (.v d)) o := by cases a <;> rfl
@[simp] theorem denHd_ret (d a : D) (env : Env) (o : Obs) : denHd (.ret d) a env o = .rt d o := by cases a <;> rfl
@[simp] theorem dS_pass  : denS Φ G N .pass env o = .nx env o := (rfl)
@[simp] theorem dS_brk  : denS Φ G N .brk env o = .bk env o := (rfl)
@[simp] theorem dS_cnt  : denS Φ G N .cnt env o = .ct env o := (rfl)
@[simp] theorem dSs_nil  : denSs Φ G N .nil env o = .nx env o := (rfl)
@[simp] theorem dSs_cons (s : S) (r : Ss) : denSs Φ G N (.cons s r) env o = (denS Φ G N s env o).seq (denSs Φ G N r) := (rfl)
def frzE (i : Nat) (env : Env) : Env := match env[i]? with | some (.ol ds) => env.set i (.v (.lst ds)) | _ => env
@[simp] theorem frzE_zero (d : List D) (l : Env) : frzE 0 (.ol d :: l) = .v (.lst d) :: l := (rfl)
@[simp] theorem frzE_succ (s : Sl) (l : Env) (i : Nat) : frzE (i + 1) (s :: l) = s :: frzE i l := by
  unfold frzE
  rw [List.getElem?_cons_succ]
  cases l[i]? with
  | none => rfl
  | some t => cases t <;> rfl
@[simp] theorem dSs_frz (i : Nat) (r : Ss) : denSs Φ G N (.frz i r) env o = denSs Φ G N r (frzE i env) o := by
  show (match env[i]? with | some (.ol ds) => denSs Φ G N r (env.set i (.v (.lst ds))) o | _ => denSs Φ G N r env o) = _
  unfold frzE
  cases env[i]? with
  | none => rfl
  | some s => cases s <;> rfl
end
/-! ### operators on data of known shape -/
@[simp] theorem bin_add (a b : D) : binD .Add a b = addD a b := (rfl)
@[simp] theorem bin_sub (a b : D) : binD .Sub a b = subD a b := (rfl)
@[simp] theorem bin_mul (a b : D) : binD .Mult a b = mulD a b := (rfl)
@[simp] theorem bin_div (a b : D) : binD .FloorDiv a b = divD a b := (rfl)
@[simp] theorem bin_mod (a b : D) : binD .Mod a b = modD a b := (rfl)
@[simp] theorem bin_pow (a b : D) : binD .Pow a b = powD a b := (rfl)
@[simp] theorem add_int (a b : Int) : addD (.int a) (.int b) = some (.int (a + b)) := (rfl)
@[simp] theorem sub_int (a b : Int) : subD (.int a) (.int b) = some (.int (a - b)) := (rfl)
@[simp] theorem add_tup (a b : List D) : addD (.tup a) (.tup b) = if a.length + b.length ≤ sizeLine then some (.tup (a ++ b)) else none := (rfl)
@[simp] theorem add_lst (a b : List D) : addD (.lst a) (.lst b) = if a.length + b.length ≤ sizeLine then some (.lst (a ++ b)) else none := (rfl)
@[simp] theorem mul_int (a b : Int) : mulD (.int a) (.int b) = cond (mulOk a b) (some (.int (a * b))) none := by
  show (if mulOk a b then _ else _) = _
  cases mulOk a b <;> rfl
@[simp] theorem mod_int (a b : Int) : modD (.int a) (.int b) = if b = 0 then none else some (.int (a.fmod b)) := (rfl)
def divOk (b : Int) : Bool := decide (b ≠ 0 ∧ b.natAbs < 1073741824) || decide (0 < b ∧ b.natAbs.log2 < 9000)
@[simp] theorem div_int (a b : Int) : divD (.int a) (.int b) = cond (divOk b) (some (.int (a.fdiv b))) none := by
  show (if (decide (b ≠ 0 ∧ b.natAbs < 1073741824) || decide (0 < b ∧ b.natAbs.log2 < 9000)) = true then _ else _) = _
  show _ = cond (decide (b ≠ 0 ∧ b.natAbs < 1073741824) || decide (0 < b ∧ b.natAbs.log2 < 9000)) _ _
  cases (decide (b ≠ 0 ∧ b.natAbs < 1073741824) || decide (0 < b ∧ b.natAbs.log2 < 9000)) <;> rfl
@[simp] theorem divOk_s {b : Int} (h0 : ¬ b = 0) (h : b.natAbs < 1073741824) : divOk b = true := by
  unfold divOk
  rw [Bool.or_eq_true]
  exact .inl (decide_eq_true ⟨h0, h⟩)
theorem divOk_w {b : Int} (h0 : 0 < b) (h : b.natAbs.log2 < 9000) : divOk b = true := by
  unfold divOk
  rw [Bool.or_eq_true]
  exact .inr (decide_eq_true ⟨h0, h⟩)
@[simp] theorem divOk_32 : divOk 4294967296 = true := by decide +kernel
@[simp] theorem min_tup (x : Int) (xs : List Int) : biD "min" [.tup ((x :: xs).map .int)] = some (.int (minI x xs)) := by
  show (match intsD _ with | some (x :: xs) => some (D.int (minI x xs)) | _ => none) = _
  rw [intsD_map]
@[simp] theorem cmp_lt (a b : Int) : cmpD .Lt (.int a) (.int b) = some (decide (a < b)) := (rfl)
@[simp] theorem cmp_le (a b : Int) : cmpD .LtE (.int a) (.int b) = some (decide (a ≤ b)) := (rfl)
@[simp] theorem cmp_gt (a b : Int) : cmpD .Gt (.int a) (.int b) = some (decide (b < a)) := (rfl)
@[simp] theorem cmp_ge (a b : Int) : cmpD .GtE (.int a) (.int b) = some (decide (b ≤ a)) := (rfl)
@[simp] theorem cmp_eqI (a b : Int) : cmpD .Eq (.int a) (.int b) = some (decide (a = b)) := by
  show (if (SeqAt.shaped (.int a) && SeqAt.shaped (.int b)) = true then some (PyData.eqv (.int a) (.int b)) else none) = _
  rw [show (SeqAt.shaped (.int a) && SeqAt.shaped (.int b)) = true from rfl, if_pos rfl]
  congr 1
@[simp] theorem cmp_eqB (a b : Bool) : cmpD .Eq (.bl a) (.bl b) = some (a == b) := by
  show (if (SeqAt.shaped (.bool a) && SeqAt.shaped (.bool b)) = true then some (PyData.eqv (.bool a) (.bool b)) else none) = _
  rw [show (SeqAt.shaped (.bool a) && SeqAt.shaped (.bool b)) = true from rfl, if_pos rfl]
  cases a <;> cases b <;> rfl
/-- a text that may be compared -/
def okS (a : Str) : Bool := SeqAt.shaped (.str a)
@[simp] theorem cmp_eqS {a b : Str} (h : okS a = true) (h2 : okS b = true) : cmpD .Eq (.str a) (.str b) = some (a == b) := by
  show (if (okS a && okS b) = true then some (PyData.eqv (.str a) (.str b)) else none) = _
  rw [h, h2, Bool.and_self, if_pos rfl]
  rfl
@[simp] theorem cmp_isN : cmpD .Is .non .non = some true := (rfl)
@[simp] theorem cmp_isB (b : Bool) : cmpD .Is (.bl b) .non = some false := (rfl)
@[simp] theorem cmp_isI (b : Int) : cmpD .Is (.int b) .non = some false := (rfl)
@[simp] theorem cmp_isS (b : Str) : cmpD .Is (.str b) .non = some false := (rfl)
@[simp] theorem cmp_isT (b : List D) : cmpD .Is (.tup b) .non = some false := (rfl)
@[simp] theorem cmp_isL (b : List D) : cmpD .Is (.lst b) .non = some false := (rfl)
@[simp] theorem cmp_nisN : cmpD .IsNot .non .non = some false := (rfl)
@[simp] theorem cmp_nisB (b : Bool) : cmpD .IsNot (.bl b) .non = some true := (rfl)
@[simp] theorem cmp_nisI (b : Int) : cmpD .IsNot (.int b) .non = some true := (rfl)
@[simp] theorem cmp_nisS (b : Str) : cmpD .IsNot (.str b) .non = some true := (rfl)
@[simp] theorem cmp_nisT (b : List D) : cmpD .IsNot (.tup b) .non = some true := (rfl)
@[simp] theorem cmp_nisL (b : List D) : cmpD .IsNot (.lst b) .non = some true := (rfl)
@[simp] theorem cmp_isBB (a b : Bool) : cmpD .Is (.bl a) (.bl b) = some (a == b) := by cases a <;> cases b <;> rfl
@[simp] theorem cmp_nisBB (a b : Bool) : cmpD .IsNot (.bl a) (.bl b) = some (a != b) := by cases a <;> cases b <;> rfl
@[simp] theorem isi_non (t : String) : isiD t .non = some false := (rfl)
@[simp] theorem isi_bl (t : String) (b : Bool) : isiD t (.bl b) = some (t == "bool" || t == "int") := (rfl)
@[simp] theorem isi_int (t : String) (b : Int) : isiD t (.int b) = some (t == "int") := (rfl)
@[simp] theorem isi_str (t : String) (b : Str) : isiD t (.str b) = some (t == "str") := (rfl)
@[simp] theorem isi_tup (t : String) (b : List D) : isiD t (.tup b) = some (t == "tuple") := (rfl)
@[simp] theorem isi_lst (t : String) (b : List D) : isiD t (.lst b) = some (t == "list") := (rfl)
@[simp] theorem cmp_neI (a b : Int) : cmpD .NotEq (.int a) (.int b) = some (!decide (a = b)) := by
  show (cmpD .Eq (.int a) (.int b)).map (!·) = _
  rw [cmp_eqI]; rfl
@[simp] theorem len_tup (a : List D) : biD "len" [.tup a] = some (.int a.length) := (rfl)
@[simp] theorem len_lst (a : List D) : biD "len" [.lst a] = some (.int a.length) := (rfl)
@[simp] theorem len_loc (a : List Int) : biD "len" [.loc a] = some (.int a.length) := (rfl)
@[simp] theorem tuple_lst (a : List D) : biD "tuple" [.lst a] = some (.tup a) := (rfl)
@[simp] theorem tuple_tup (a : List D) : biD "tuple" [.tup a] = some (.tup a) := (rfl)
@[simp] theorem int_int (a : Int) : biD "int" [.int a] = some (.int a) := (rfl)
@[simp] theorem ix_tup (a : List D) (i : Int) : ixD (.tup a) (.int i) = atI a i := (rfl)
@[simp] theorem ix_lst (a : List D) (i : Int) : ixD (.lst a) (.int i) = atI a i := (rfl)
@[simp] theorem sl_tup (a : List D) (l h : Option Int) : slD (.tup a) l h = some (.tup (cutD a l h)) := (rfl)
@[simp] theorem sl_lst (a : List D) (l h : Option Int) : slD (.lst a) l h = some (.lst (cutD a l h)) := (rfl)
@[simp] theorem sl_loc (a : List Int) (l h : Option Int) : slD (.loc a) l h = some (.lst (cutD (a.map .int) l h)) := (rfl)
@[simp] theorem sizeLine_eq : sizeLine = 16777216 := by decide +kernel
@[simp] theorem rev_tup (a : List D) : revD (.tup a) = if a.length ≤ 1000000 then some (.tup a.reverse) else none := (rfl)
@[simp] theorem rev_lst (a : List D) : revD (.lst a) = some (.lst a.reverse) := (rfl)
@[simp] theorem str_int (a : Int) : biD "str" [.int a] = if a.natAbs.log2 < 1920 then some (.str (toString a)) else none := (rfl)
@[simp] theorem tru_bl (b : Bool) : truD (.bl b) = some b := (rfl)
@[simp] theorem tru_non : truD .non = some false := (rfl)
@[simp] theorem R.opt_ite {α : Type} (o : Obs) (c : Prop) [Decidable c] (a : α) : R.opt o (if c then some a else none) = ifK (decide c) (.ok a o) .bad := by
  by_cases h : c <;> simp [h]
@[simp] theorem R.opt_map {α β : Type} (o : Obs) (f : α → β) (x : Option α) : R.opt o (x.map f) = (R.opt o x).map f := by cases x <;> rfl
theorem R.map_bind {α β γ : Type} (x : R α) (f : α → β) (k : β → Obs → R γ) : (x.map f).bind k = x.bind fun a o => k (f a) o := by cases x <;> rfl
end Mp
namespace Mp
open PySem PySem.Spec PyProof.Rows L2
/-! ### calls -/
def endR (x : RS) : R D := match x with
  | .rt d o => .ok d o
  | .nx _ o => .ok .non o
  | .ex c a _ o => .ex c a o
  | _ => .bad
@[simp] theorem endR_ex (c : Str) (d : D) (e : Env) (o : Obs) : endR (.ex c d e o) = .ex c d o := (rfl)
@[simp] theorem endR_rt (d : D) (o : Obs) : endR (.rt d o) = .ok d o := (rfl)
@[simp] theorem endR_nx (d : Env) (o : Obs) : endR (.nx d o) = .ok .non o := (rfl)
theorem endR_wp {x : RS} {P : D → Obs → Prop} (h : x.wp { nx := fun _ o => P .non o, rt := P }) : (endR x).wp P := by
  cases x <;> exact h
theorem runFn_eq {f : Fn} {Φ : Str → List D → Obs → R D} {G : Str → Option D} {N : Nat} {ds : List D} {o : Obs} (h : ds.length = f.ps) : runFn f Φ G N ds o = endR (denSs Φ G N f.body (ds.map .v ++ List.replicate (f.sl - f.ps) .un) o) := by
  unfold runFn
  rw [if_pos h]; rfl
theorem lookup_at {β : Type} : ∀ {l : List (Str × β)} {i : Nat} {x : Str} {e : β}, (l.map (·.1)).Nodup → l[i]? = some (x, e) → l.lookup x = some e
  | [], _, _, _, _, h => by simp at h
  | (y, d) :: r, 0, x, e, n, h => by
    simp at h
    obtain ⟨rfl, rfl⟩ := h
    simp [List.lookup_cons]
  | (y, d) :: r, i + 1, x, e, n, h => by
    simp only [List.map_cons, List.nodup_cons] at n
    have h' : r[i]? = some (x, e) := by simpa using h
    rw [List.lookup_cons]
    have : (x == y) = false := by
      simp only [beq_eq_false_iff_ne, ne_eq]
      rintro rfl
      exact n.1 (List.mem_map.mpr ⟨_, List.mem_of_getElem? h', rfl⟩)
    rw [this]
    exact lookup_at n.2 h'
theorem call_succM {Q : Pg} {M n i : Nat} {f : Str} {e : Fn} (h0 : Q.fn.lookup f = none) (hn : (Q.ms.map (·.1)).Nodup) (h : Q.ms[i]? = some (f, e)) (ds : List D) (o : Obs) (hl : ds.length = e.ps) :
    Q.call M (n + 1) f ds o = endR (denSs (Q.call M n) (fun x => Q.gl.lookup x) M e.body (ds.map .v ++ List.replicate (e.sl - e.ps) .un) o) := by
  show (match Q.fn.lookup f with
    | some e => runFn e (Q.call M n) (fun x => Q.gl.lookup x) M ds o
    | none => (match Q.ms.lookup f with
      | some e => runFn e (Q.call M n) (fun x => Q.gl.lookup x) M ds o
      | none => .bad)) = _
  rw [h0, lookup_at hn h]
  exact runFn_eq hl
theorem call_succ {Q : Pg} {M n i : Nat} {f : Str} {e : Fn} (hn : (Q.fn.map (·.1)).Nodup) (h : Q.fn[i]? = some (f, e)) (ds : List D) (o : Obs) (hl : ds.length = e.ps) :
    Q.call M (n + 1) f ds o = endR (denSs (Q.call M n) (fun x => Q.gl.lookup x) M e.body (ds.map .v ++ List.replicate (e.sl - e.ps) .un) o) := by
  show (match Q.fn.lookup f with
    | some e => runFn e (Q.call M n) (fun x => Q.gl.lookup x) M ds o
    | none => _) = _
  rw [lookup_at hn h]
  exact runFn_eq hl
end Mp

set_option Elab.async false
set_option linter.all false
set_option maxRecDepth 100000
set_option maxHeartbeats 4000000
/-! Rules for loops and comprehensions; parts of lists. -/
namespace Mp
open PySem PySem.Spec PyProof.Rows L2

/-! ### parts of lists -/
theorem ixN_nat {n k : Nat} (h : k < n) : ixN n (k : Int) = some k := by
  unfold ixN
  rw [if_pos (by omega), if_pos (by omega)]; simp
theorem atI_nat {α : Type} {l : List α} {k : Nat} (h : k < l.length) : atI l (k : Int) = l[k]? := by
  unfold atI
  rw [ixN_nat h]; rfl
theorem atI_get {α : Type} {l : List α} {i : Int} (h : 0 ≤ i) (h2 : i < l.length) : atI l i = some (l[i.toNat]'(by omega)) := by
  obtain ⟨k, rfl⟩ := Int.eq_ofNat_of_zero_le h
  rw [atI_nat (by omega)]
  simp only [Int.toNat_natCast]
  exact List.getElem?_eq_getElem (by omega)
@[simp] theorem atI_0 {α : Type} (x : α) (l : List α) : atI (x :: l) 0 = some x := by
  have := atI_nat (l := x :: l) (k := 0) (by simp)
  simpa using this
@[simp] theorem atI_1 {α : Type} (x y : α) (l : List α) : atI (x :: y :: l) 1 = some y := by
  have := atI_nat (l := x :: y :: l) (k := 1) (by simp)
  simpa using this
@[simp] theorem atI_2 {α : Type} (x y z : α) (l : List α) : atI (x :: y :: z :: l) 2 = some z := by
  have := atI_nat (l := x :: y :: z :: l) (k := 2) (by simp)
  simpa using this
@[simp] theorem atI_3 {α : Type} (x y z u : α) (l : List α) : atI (x :: y :: z :: u :: l) 3 = some u := by
  have := atI_nat (l := x :: y :: z :: u :: l) (k := 3) (by simp)
  simpa using this
theorem atI_mem {α : Type} {l : List α} {i : Int} (h : 0 ≤ i) (h2 : i < l.length) : ∃ x, atI l i = some x ∧ x ∈ l := ⟨_, atI_get h h2, List.getElem_mem _⟩
theorem sIx_hi (n d : Nat) {k : Int} (h : 0 ≤ k) : HT.sIx n d (some k) = min k.toNat n := by
  show (if k < 0 then (k + n).toNat else min k.toNat n) = _
  rw [if_neg (by omega)]
theorem cut_to {ds : List D} {k : Int} (h : 0 ≤ k) : cutD ds none (some k) = ds.take k.toNat := by
  unfold cutD
  rw [sIx_hi _ _ h]
  show (ds.drop 0).take (min k.toNat ds.length - 0) = _
  rw [List.drop_zero, Nat.sub_zero]
  by_cases q : k.toNat ≤ ds.length
  · rw [Nat.min_eq_left q]
  · rw [Nat.min_eq_right (by omega), List.take_of_length_le (Nat.le_refl _), List.take_of_length_le (by omega)]
theorem cut_from {ds : List D} {k : Int} (h : 0 ≤ k) : cutD ds (some k) none = ds.drop k.toNat := by
  unfold cutD
  rw [sIx_hi _ _ h]
  show (ds.drop (min k.toNat ds.length)).take (ds.length - min k.toNat ds.length) = _
  rw [List.take_of_length_le (by simp)]
  by_cases q : k.toNat ≤ ds.length
  · rw [Nat.min_eq_left q]
  · rw [Nat.min_eq_right (by omega), List.drop_of_length_le (Nat.le_refl _), List.drop_of_length_le (by omega)]
theorem cut_mid {ds : List D} {i k : Int} (h : 0 ≤ i) (h2 : i ≤ k) : cutD ds (some i) (some k) = (ds.drop i.toNat).take (k.toNat - i.toNat) := by
  unfold cutD
  rw [sIx_hi _ _ h, sIx_hi _ _ (by omega)]
  by_cases q : i.toNat ≤ ds.length
  · rw [Nat.min_eq_left q]
    by_cases q2 : k.toNat ≤ ds.length
    · rw [Nat.min_eq_left q2]
    · rw [Nat.min_eq_right (by omega), List.take_of_length_le (by simp), List.take_of_length_le (by simp; omega)]
  · rw [Nat.min_eq_right (a := i.toNat) (by omega), List.drop_of_length_le (Nat.le_refl _), List.drop_of_length_le (by omega)]
    simp
theorem cut_last {ds : List D} : cutD ds none (some (-1)) = ds.dropLast := by
  unfold cutD
  show (ds.drop 0).take ((-1 + (ds.length : Int)).toNat - 0) = _
  rw [List.drop_zero, List.dropLast_eq_take]
  congr 1; omega
@[simp] theorem cut_tail1 (x : D) (l : List D) : cutD (x :: l) (some 1) none = l := by rw [cut_from (by decide)]; rfl
@[simp] theorem cut_tail2 (x y : D) (l : List D) : cutD (x :: y :: l) (some 2) none = l := by rw [cut_from (by decide)]; rfl
@[simp] theorem mulOk_r {a b : Int} (h : b.natAbs < 18446744073709551616) : mulOk a b = true := by
  unfold mulOk
  simp [h]
theorem mulOk_l {a b : Int} (h : a.natAbs < 18446744073709551616) : mulOk a b = true := by
  unfold mulOk
  simp [h]
theorem rangeD_len (lo : Int) (n : Nat) (c : Int) : (rangeD lo n c).length = n := by simp [rangeD]
theorem rangeD_at {lo : Int} {n i : Nat} {c : Int} {d : D} (h : (rangeD lo n c)[i]? = some d) : i < n ∧ d = .int (lo + (i : Nat) * c) := by
  have hi : i < n := by
    have := (List.getElem?_eq_some_iff.mp h).1
    simpa [rangeD_len] using this
  refine ⟨hi, ?_⟩
  simp [rangeD, hi] at h
  exact h.symm
theorem rangeD_succ (lo : Int) (n : Nat) (c : Int) : rangeD lo (n + 1) c = .int lo :: rangeD (lo + c) n c := by
  unfold rangeD
  rw [List.range_succ_eq_map, List.map_cons, List.map_map]
  congr 1
  · simp
  · apply List.map_congr_left
    intro i _
    show D.int (lo + ((i + 1 : Nat) : Int) * c) = .int (lo + c + (i : Int) * c)
    congr 1
    push_cast
    rw [Int.add_mul]; omega
/-! ### comprehensions -/
theorem lcD_map {own : List Nat} {tg : Tg} {t : Env → Obs → R Bool} {x : Env → Obs → R D} {env : Env} {o : Obs} {p : D → Bool} {f : D → D} : ∀ {ds acc : List D}, ds.length + acc.length ≤ sizeLine →
    (∀ d ∈ ds, ∃ e, setTg tg d (wipeE env own) = some e ∧ t e o = .ok (p d) o ∧ (p d = true → x e o = .ok (f d) o)) → lcD own tg t x env ds acc o = .ok (acc ++ (ds.filter p).map f) o
  | [], acc, _, _ => by simp [lcD]
  | d :: ds, acc, hl, h => by
    obtain ⟨e, h1, h2, h3⟩ := h d List.mem_cons_self
    have ih := fun acc' hl' => lcD_map (ds := ds) (acc := acc') hl' fun d' hd => h d' (List.mem_cons_of_mem _ hd)
    unfold lcD
    rw [h1]
    simp only [h2, R.noex_ok, R.bind_ok]
    simp only [List.length_cons, sizeLine_eq] at hl ih ⊢
    cases hp : p d with
    | false =>
      simp only [Bool.false_eq_true, if_false]
      rw [ih acc (by omega), List.filter_cons_of_neg (by simp [hp])]
    | true =>
      simp only [if_true, h3 hp, R.noex_ok, R.bind_ok]
      rw [if_pos (by omega), ih (acc ++ [f d]) (by simp; omega), List.filter_cons_of_pos (by simp [hp])]
      simp
theorem lcD_wp {own : List Nat} {tg : Tg} {t : Env → Obs → R Bool} {x : Env → Obs → R D} {env : Env} {P : List D → Obs → Prop} (J : Nat → List D → Obs → Prop) : ∀ {ds acc : List D} {o : Obs} {i : Nat}, J i acc o →
    (∀ j d acc o, ds[j]? = some d → J (i + j) acc o → ∃ e, setTg tg d (wipeE env own) = some e ∧ (t e o).wp fun b o1 => if b = true then (x e o1).wp fun y o2 => acc.length < sizeLine ∧ J (i + j + 1) (acc ++ [y]) o2 else J (i + j + 1) acc o1) →
    (∀ acc o, J (i + ds.length) acc o → P acc o) → (lcD own tg t x env ds acc o).wp P
  | [], acc, o, i, h, _, fin => by
    unfold lcD
    exact fin acc o h
  | d :: ds, acc, o, i, h, step, fin => by
    obtain ⟨e, h1, h2⟩ := step 0 d acc o rfl h
    unfold lcD
    rw [h1]
    simp only
    obtain ⟨b, o1, h3, h4⟩ := R.wp_eq h2
    rw [h3]
    simp only [R.noex_ok, R.bind_ok]
    have ih := fun acc' o' (h' : J (i + 1) acc' o') => lcD_wp (own := own) (tg := tg) (t := t) (x := x) (env := env) (P := P) J (ds := ds) (acc := acc') (o := o') (i := i + 1) h'
      (fun j d' acc'' o'' hj hJ => by
        have := step (j + 1) d' acc'' o'' (by simpa using hj) (by rw [show i + (j + 1) = i + 1 + j from by omega]; exact hJ)
        rw [show i + (j + 1) = i + 1 + j from by omega] at this
        exact this)
      (fun acc'' o'' hJ => fin acc'' o'' (by rw [List.length_cons, show i + (ds.length + 1) = i + 1 + ds.length from by omega]; exact hJ))
    cases b with
    | false =>
      simp only [Bool.false_eq_true, if_false] at h4 ⊢
      exact ih acc o1 h4
    | true =>
      simp only [if_true] at h4 ⊢
      obtain ⟨y, o2, h5, h6, h7⟩ := R.wp_eq h4
      rw [h5]
      simp only [R.noex_ok, R.bind_ok]
      rw [if_pos h6]
      exact ih (acc ++ [y]) o2 h7
/-! ### loops -/
theorem forD_wp {tg : Tg} {b : Env → Obs → RS} {P : Pt} (J : Nat → Env → Obs → Prop) : ∀ {ds : List D} {env : Env} {o : Obs} {i : Nat}, J i env o →
    (∀ j d env o, ds[j]? = some d → J (i + j) env o → ∃ e, setTg tg d env = some e ∧ (b e o).wp { nx := J (i + j + 1), ct := J (i + j + 1), bk := P.nx, rt := P.rt }) →
    (∀ env o, J (i + ds.length) env o → P.nx env o) → (forD tg b ds env o).wp P
  | [], env, o, i, h, _, fin => by
    unfold forD
    exact fin env o h
  | d :: ds, env, o, i, h, step, fin => by
    obtain ⟨e, h1, h2⟩ := step 0 d env o rfl h
    unfold forD
    rw [h1]
    simp only
    have ih := fun env' o' (h' : J (i + 1) env' o') => forD_wp (tg := tg) (b := b) (P := P) J (ds := ds) (env := env') (o := o') (i := i + 1) h'
      (fun j d' acc'' o'' hj hJ => by
        have := step (j + 1) d' acc'' o'' (by simpa using hj) (by rw [show i + (j + 1) = i + 1 + j from by omega]; exact hJ)
        rw [show i + (j + 1) = i + 1 + j from by omega] at this
        exact this)
      (fun acc'' o'' hJ => fin acc'' o'' (by rw [List.length_cons, show i + (ds.length + 1) = i + 1 + ds.length from by omega]; exact hJ))
    cases hb : b e o with
    | nx e' o' => rw [hb] at h2; exact ih e' o' h2
    | ct e' o' => rw [hb] at h2; exact ih e' o' h2
    | bk e' o' => rw [hb] at h2; exact h2
    | rt d' o' => rw [hb] at h2; exact h2
    | ex cc a e' o' => rw [hb] at h2; exact h2.elim
    | bad => rw [hb] at h2; exact h2.elim
/-- a while: J k holds where k turns at most are left -/
theorem whileD_wp {c : Env → Obs → R Bool} {b : Env → Obs → RS} {P : Pt} (J : Nat → Env → Obs → Prop)
    (step : ∀ k env o, J k env o → (c env o).wp fun t o1 => if t = true then ∃ k', k = k' + 1 ∧ (b env o1).wp { nx := J k', ct := J k', bk := P.nx, rt := P.rt } else P.nx env o1) : ∀ {k n : Nat} {env : Env} {o : Obs}, k < n → J k env o → (whileD c b n env o).wp P
  | k, 0, _, _, h, _ => absurd h (Nat.not_lt_zero _)
  | k, n + 1, env, o, h, hJ => by
    unfold whileD
    obtain ⟨t, o1, h1, h2⟩ := R.wp_eq (step k env o hJ)
    rw [h1]
    simp only [R.st_ok]
    cases t with
    | false =>
      simp only [Bool.false_eq_true, if_false] at h2 ⊢
      exact h2
    | true =>
      simp only [if_true] at h2 ⊢
      obtain ⟨k', rfl, h3⟩ := h2
      have ih := fun env' o' => whileD_wp (P := P) J step (k := k') (n := n) (env := env') (o := o') (by omega)
      cases hb : b env o1 with
      | nx e' o' => rw [hb] at h3; exact ih e' o' h3
      | ct e' o' => rw [hb] at h3; exact ih e' o' h3
      | bk e' o' => rw [hb] at h3; exact h3
      | rt d' o' => rw [hb] at h3; exact h3
      | ex cc a e' o' => rw [hb] at h3; exact h3.elim
      | bad => rw [hb] at h3; exact h3.elim
theorem R.of_wp {α : Type} {x : R α} {a : α} {o : Obs} (h : x.wp fun b o' => b = a ∧ o' = o) : x = .ok a o := by
  obtain ⟨b, o', e, rfl, rfl⟩ := R.wp_eq h
  exact e
theorem endR_seq {x : RS} {f : Env → Obs → RS} {d : D} {o : Obs} (h : x.wp { nx := fun e o' => (endR (f e o')).wp fun b o'' => b = d ∧ o'' = o, rt := fun b o' => b = d ∧ o' = o }) : endR (x.seq f) = .ok d o := by
  refine R.of_wp (endR_wp ?_)
  refine RS.wp_seq (RS.wp_imp h (fun e o' h => ?_) (fun _ _ h => h) (fun _ _ h => h) (fun _ _ h => h))
  obtain ⟨b, o'', e1, rfl, rfl⟩ := R.wp_eq h
  cases q : f e o' with
  | rt d o => rw [q] at e1; cases e1; unfold RS.wp; simp only [q, and_self]
  | nx d o => rw [q] at e1; cases e1; unfold RS.wp; simp only [q, and_self]
  | _ => rw [q] at e1; cases e1
/-! ### plain data -/
mutual
def plainD : D → Bool
  | .non => true | .bl _ => true | .int _ => true | .str x => okS x
  | .tup ds => plainDs ds && decide (ds.length < 16777216)
  | .lst ds => plainDs ds && decide (ds.length < 16777216)
  | _ => false
def plainDs : List D → Bool
  | [] => true
  | d :: ds => plainD d && plainDs ds
end
mutual
def depD : D → Nat
  | .tup ds => depDs ds + 1
  | .lst ds => depDs ds + 1
  | _ => 0
def depDs : List D → Nat
  | [] => 0
  | d :: ds => max (depD d) (depDs ds)
end
theorem plainDs_get : ∀ {ds : List D} {d : D}, plainDs ds = true → d ∈ ds → plainD d = true
  | e :: ds, d, h, m => by
    simp only [plainDs, Bool.and_eq_true] at h
    rcases List.mem_cons.mp m with rfl | m
    · exact h.1
    · exact plainDs_get h.2 m
theorem plainDs_of : ∀ {ds : List D}, (∀ d ∈ ds, plainD d = true) → plainDs ds = true
  | [], _ => rfl
  | d :: ds, h => by
    simp only [plainDs, Bool.and_eq_true]
    exact ⟨h d List.mem_cons_self, plainDs_of fun e he => h e (List.mem_cons_of_mem _ he)⟩
theorem depDs_get : ∀ {ds : List D} {d : D}, d ∈ ds → depD d ≤ depDs ds
  | e :: ds, d, m => by
    simp only [depDs]
    rcases List.mem_cons.mp m with rfl | m
    · exact Nat.le_max_left _ _
    · exact Nat.le_trans (depDs_get m) (Nat.le_max_right _ _)
theorem depDs_le : ∀ {ds : List D} {k : Nat}, (∀ d ∈ ds, depD d ≤ k) → depDs ds ≤ k
  | [], _, _ => Nat.zero_le _
  | d :: ds, k, h => by
    simp only [depDs]
    exact Nat.max_le.mpr ⟨h d List.mem_cons_self, depDs_le fun e he => h e (List.mem_cons_of_mem _ he)⟩
@[simp] theorem smallI_nat (n : Nat) (h : n < 16777216) : smallI (n : Int) = true := by
  unfold smallI
  exact decide_eq_true (by omega)
theorem bls_true : ∀ (n : Nat) (l : List D), l.length = n → blsD (l.map fun _ => D.bl true) = some (List.replicate n true)
  | 0, [], _ => rfl
  | n + 1, d :: l, h => by
    simp only [List.map_cons, blsD, bls_true n l (by simpa using h), Option.map_some, List.replicate_succ]
theorem filter_true {α : Type} (l : List α) : l.filter (fun _ => true) = l := by simp
@[simp] theorem all_repl (n : Nat) (l : List D) (h : l.length = n) : biD "all" [.lst (l.map fun _ => D.bl true)] = some (.bl true) := by
  show (blsD _).map _ = _
  rw [bls_true n l h]
  simp

theorem blsD_mapP {α : Type} (p : α → Bool) : ∀ l : List α, blsD (l.map fun d => D.bl (p d)) = some (l.map p)
  | [] => rfl
  | d :: l => by simp [blsD, blsD_mapP p l]
theorem all_mapD {α : Type} (l : List α) (p : α → Bool) : biD "all" [.lst (l.map fun d => D.bl (p d))] = some (.bl (l.all p)) := by
  show (blsD _).map _ = _
  rw [blsD_mapP]
  simp [List.all_map]
theorem all_trueD {α : Type} (l : List α) : biD "all" [.lst (l.map fun _ => D.bl true)] = some (.bl true) := by
  rw [all_mapD l fun _ => true, List.all_eq_true.mpr fun _ _ => rfl]
theorem any_mapD {α : Type} (l : List α) (p : α → Bool) : biD "any" [.lst (l.map fun d => D.bl (p d))] = some (.bl (l.any p)) := by
  show (blsD _).map _ = _
  rw [blsD_mapP]
  simp [List.any_map]
theorem all_lst (l : List D) : biD "all" [.lst l] = (blsD l).map fun ns => .bl (ns.all id) := rfl
theorem any_lst (l : List D) : biD "any" [.lst l] = (blsD l).map fun ns => .bl (ns.any id) := rfl
/-! equality of plain data -/
mutual
def eqvD : D → D → Bool
  | .non, .non => true
  | .bl a, .bl b => a == b
  | .bl a, .int j => (if a then 1 else 0) == j
  | .int i, .bl b => i == (if b then 1 else 0)
  | .int i, .int j => i == j
  | .str x, .str y => x == y
  | .lst xs, .lst ys => eqvDs xs ys
  | .tup xs, .tup ys => eqvDs xs ys
  | _, _ => false
def eqvDs : List D → List D → Bool
  | [], [] => true
  | x :: xs, y :: ys => eqvD x y && eqvDs xs ys
  | _, _ => false
end
mutual
theorem toP_plain : ∀ {d : D}, plainD d = true → ∃ x, toP d = some x ∧ PyData.canLay0 x = true ∧ PyData.depth x = depD d
  | .non, _ => ⟨_, rfl, rfl, rfl⟩
  | .bl _, _ => ⟨_, rfl, rfl, rfl⟩
  | .int _, _ => ⟨_, rfl, rfl, rfl⟩
  | .str x, h => ⟨_, rfl, by
      have h : okS x = true := by simpa only [plainD] using h
      exact SeqAt.canLay_of_shaped h, rfl⟩
  | .tup ds, h => by
    simp only [plainD, Bool.and_eq_true] at h
    obtain ⟨xs, e, a, b⟩ := toPs_plain h.1
    exact ⟨.tuple xs, by simp [toP, e], by simpa only [PyData.canLay0] using a, by simp only [PyData.depth, depD, b]⟩
  | .lst ds, h => by
    simp only [plainD, Bool.and_eq_true] at h
    obtain ⟨xs, e, a, b⟩ := toPs_plain h.1
    exact ⟨.list xs, by simp [toP, e], by simpa only [PyData.canLay0] using a, by simp only [PyData.depth, depD, b]⟩
  | .ty _, h => by simp [plainD] at h
  | .dic _, h => by simp [plainD] at h
  | .obj _, h => by simp [plainD] at h
  | .loc _, h => by simp [plainD] at h
theorem toPs_plain : ∀ {ds : List D}, plainDs ds = true → ∃ xs, toPs ds = some xs ∧ PyData.canLayAll0 xs = true ∧ PyData.depthAll xs = depDs ds
  | [], _ => ⟨_, rfl, rfl, rfl⟩
  | d :: ds, h => by
    simp only [plainDs, Bool.and_eq_true] at h
    obtain ⟨x, e1, a1, b1⟩ := toP_plain h.1
    obtain ⟨xs, e2, a2, b2⟩ := toPs_plain h.2
    exact ⟨x :: xs, by simp [toPs, e1, e2], by simp only [PyData.canLayAll0, a1, a2]; rfl, by simp only [PyData.depthAll, depDs, b1, b2]⟩
end
mutual
theorem eqv_toP : ∀ {a b : D} {x y : PyData}, toP a = some x → toP b = some y → PyData.eqv x y = eqvD a b
  | .tup as, b, x, y, h1, h2 => by
    simp only [toP, Option.map_eq_some_iff] at h1
    obtain ⟨xs, e1, rfl⟩ := h1
    cases b with
    | tup bs =>
      simp only [toP, Option.map_eq_some_iff] at h2
      obtain ⟨ys, e2, rfl⟩ := h2
      simp only [PyData.eqv, eqvD]
      exact eqv_toPs e1 e2
    | lst bs =>
      simp only [toP, Option.map_eq_some_iff] at h2
      obtain ⟨ys, e2, rfl⟩ := h2
      simp only [PyData.eqv, eqvD]
    | non => cases h2; simp only [PyData.eqv, eqvD]
    | bl _ => cases h2; simp only [PyData.eqv, eqvD]
    | int _ => cases h2; simp only [PyData.eqv, eqvD]
    | str _ => cases h2; simp only [PyData.eqv, eqvD]
    | _ => simp [toP] at h2
  | .lst as, b, x, y, h1, h2 => by
    simp only [toP, Option.map_eq_some_iff] at h1
    obtain ⟨xs, e1, rfl⟩ := h1
    cases b with
    | lst bs =>
      simp only [toP, Option.map_eq_some_iff] at h2
      obtain ⟨ys, e2, rfl⟩ := h2
      simp only [PyData.eqv, eqvD]
      exact eqv_toPs e1 e2
    | tup bs =>
      simp only [toP, Option.map_eq_some_iff] at h2
      obtain ⟨ys, e2, rfl⟩ := h2
      simp only [PyData.eqv, eqvD]
    | non => cases h2; simp only [PyData.eqv, eqvD]
    | bl _ => cases h2; simp only [PyData.eqv, eqvD]
    | int _ => cases h2; simp only [PyData.eqv, eqvD]
    | str _ => cases h2; simp only [PyData.eqv, eqvD]
    | _ => simp [toP] at h2
  | .non, b, x, y, h1, h2 => by
    cases h1
    cases b <;> first | (cases h2; simp only [PyData.eqv, eqvD]) | (simp only [toP, Option.map_eq_some_iff] at h2; obtain ⟨ys, e2, rfl⟩ := h2; simp only [PyData.eqv, eqvD]) | (simp [toP] at h2)
  | .bl _, b, x, y, h1, h2 => by
    cases h1
    cases b <;> first | (cases h2; simp only [PyData.eqv, eqvD]) | (simp only [toP, Option.map_eq_some_iff] at h2; obtain ⟨ys, e2, rfl⟩ := h2; simp only [PyData.eqv, eqvD]) | (simp [toP] at h2)
  | .int _, b, x, y, h1, h2 => by
    cases h1
    cases b <;> first | (cases h2; simp only [PyData.eqv, eqvD]) | (simp only [toP, Option.map_eq_some_iff] at h2; obtain ⟨ys, e2, rfl⟩ := h2; simp only [PyData.eqv, eqvD]) | (simp [toP] at h2)
  | .str _, b, x, y, h1, h2 => by
    cases h1
    cases b <;> first | (cases h2; simp only [PyData.eqv, eqvD]) | (simp only [toP, Option.map_eq_some_iff] at h2; obtain ⟨ys, e2, rfl⟩ := h2; simp only [PyData.eqv, eqvD]) | (simp [toP] at h2)
  | .ty _, _, _, _, h, _ => by simp [toP] at h
  | .dic _, _, _, _, h, _ => by simp [toP] at h
  | .obj _, _, _, _, h, _ => by simp [toP] at h
  | .loc _, _, _, _, h, _ => by simp [toP] at h
theorem eqv_toPs : ∀ {a b : List D} {x y : List PyData}, toPs a = some x → toPs b = some y → PyData.eqvAll x y = eqvDs a b
  | [], [], x, y, h1, h2 => by cases h1; cases h2; simp only [PyData.eqvAll, eqvDs]
  | [], d :: ds, x, y, h1, h2 => by
    cases h1
    simp only [toPs, Option.bind_eq_bind, Option.bind_eq_some_iff, Option.some.injEq] at h2
    obtain ⟨u, _, us, _, rfl⟩ := h2
    simp only [PyData.eqvAll, eqvDs]
  | d :: ds, [], x, y, h1, h2 => by
    cases h2
    simp only [toPs, Option.bind_eq_bind, Option.bind_eq_some_iff, Option.some.injEq] at h1
    obtain ⟨u, _, us, _, rfl⟩ := h1
    simp only [PyData.eqvAll, eqvDs]
  | d :: ds, e :: es, x, y, h1, h2 => by
    simp only [toPs, Option.bind_eq_bind, Option.bind_eq_some_iff, Option.some.injEq] at h1 h2
    obtain ⟨u, a1, us, b1, rfl⟩ := h1
    obtain ⟨w, a2, ws, b2, rfl⟩ := h2
    simp only [PyData.eqvAll, eqvDs]
    rw [eqv_toP a1 a2, eqv_toPs b1 b2]
end
theorem tupP {ds : List D} {k : Nat} (h : ∀ e ∈ ds, plainD e = true ∧ depD e ≤ k) (hl : ds.length < 16777216) : plainD (.tup ds) = true ∧ depD (.tup ds) ≤ k + 1 := by
  refine ⟨?_, ?_⟩
  · simp only [plainD, Bool.and_eq_true, decide_eq_true_eq]
    exact ⟨plainDs_of fun e he => (h e he).1, hl⟩
  · simp only [depD]
    exact Nat.succ_le_succ (depDs_le fun e he => (h e he).2)
/-- plain data that are not too deep -/
def okD (d : D) : Bool := plainD d && decide (depD d ≤ 64)
theorem eq_okD {a b : D} (h1 : okD a = true) (h2 : okD b = true) : cmpD .Eq a b = some (eqvD a b) := by
  unfold okD at h1 h2
  rw [Bool.and_eq_true, decide_eq_true_eq] at h1 h2
  obtain ⟨x, e1, c1, d1⟩ := toP_plain h1.1
  obtain ⟨y, e2, c2, d2⟩ := toP_plain h2.1
  have s1 : SeqAt.shaped x = true := by
    unfold SeqAt.shaped
    rw [c1, d1]; simpa using h1.2
  have s2 : SeqAt.shaped y = true := by
    unfold SeqAt.shaped
    rw [c2, d2]; simpa using h2.2
  show eqD a b = _
  unfold eqD
  rw [e1, e2]
  show (if (SeqAt.shaped x && SeqAt.shaped y) = true then some (PyData.eqv x y) else none) = _
  rw [s1, s2, Bool.and_self, if_pos rfl, eqv_toP e1 e2]
theorem ne_okD {a b : D} (h1 : okD a = true) (h2 : okD b = true) : cmpD .NotEq a b = some (!eqvD a b) := by
  show (cmpD .Eq a b).map (!·) = _
  rw [eq_okD h1 h2]; rfl
theorem okD_int (i : Int) : okD (.int i) = true := rfl
theorem eqvDs_ints : ∀ {as bs : List Int}, eqvDs (as.map .int) (bs.map .int) = decide (as = bs)
  | [], [] => by simp [eqvDs]
  | [], _ :: _ => by simp [eqvDs]
  | _ :: _, [] => by simp [eqvDs]
  | a :: as, b :: bs => by
    simp only [List.map_cons, eqvDs, eqvD, eqvDs_ints]
    by_cases h : a = b <;> simp [h]
end Mp

set_option Elab.async false
set_option linter.all false
set_option maxRecDepth 100000
namespace Mp
open PySem PySem.Spec PyProof.Rows L2
/-! ### the terms of the text (printed) -/
def lawM : Nat := 5000
def lawN : Nat := 40
def top (i : Nat) : Stmt := PySem.Challenge.pw_wireagreed_k44_whole_long_messages.main.body.getD i (.Pass ⟨0, 0, 0, 0⟩)
def fs : List Str := [("alone_data" : Str), ("first_data" : Str), ("next_data" : Str), ("flow_data" : Str), ("datas_of" : Str), ("read_alone" : Str), ("read_first" : Str), ("read_data" : Str), ("frames_needed" : Str), ("flows_needed" : Str), ("ticks_needed" : Str), ("carried" : Str), ("_law_box" : Str), ("_law_load" : Str), ("_law_draw" : Str), ("_law_same" : Str), ("_law_message" : Str), ("_law_exchange" : Str), ("_law_given" : Str), ("_law_patient" : Str), ("law" : Str)]
def bs : List Str := [("+LongSender" : Str), ("+LongTaker" : Str), (":LongSender.data" : Str), (":LongSender.hear" : Str), (":LongSender.sent" : Str), (":LongSender.state" : Str), (":LongSender.tick" : Str), (":LongTaker._hear_next" : Str), (":LongTaker._leave" : Str), (":LongTaker.hear" : Str), (":LongTaker.messages" : Str), (":LongTaker.refused" : Str), (":LongTaker.tick" : Str), ("@LongSender._begun" : Str), ("@LongSender._gap" : Str), ("@LongSender._left" : Str), ("@LongSender._long" : Str), ("@LongSender._may" : Str), ("@LongSender._rest" : Str), ("@LongSender._state" : Str), ("@LongSender._ticks" : Str), ("@LongSender._waits" : Str), ("@LongTaker._block" : Str), ("@LongTaker._count" : Str), ("@LongTaker._gap" : Str), ("@LongTaker._got" : Str), ("@LongTaker._last" : Str), ("@LongTaker._number" : Str), ("@LongTaker._refused" : Str), ("@LongTaker._room" : Str), ("@LongTaker._size" : Str), ("@LongTaker._ticks" : Str), ("@LongTaker._whole" : Str), ("all" : Str), ("bool" : Str), ("dict" : Str), ("int" : Str), ("isinstance" : Str), ("len" : Str), ("list" : Str), ("max" : Str), ("min" : Str), ("range" : Str), ("sorted" : Str), ("str" : Str), ("tuple" : Str)]
def n_alone_data : List Str := ["message"]
def m_alone_data : Ss := (.cons (.ret (.bin .Add (.tup (.cons (.bin .Add (.glob "ALONE") (.bi "len" (.cons (.var 0) .nil))) .nil)) (.var 0))) .nil)
def e_alone_data : Fn := ⟨1, 1, m_alone_data⟩
theorem c_alone_data : chkSs fs bs n_alone_data (defScope (top 11)) m_alone_data (defBody (top 11)) = true := by decide +kernel
theorem s_alone_data : FnScope n_alone_data ["message"] (defScope (top 11)) := ⟨by decide +kernel, by decide +kernel, by decide +kernel, by decide +kernel, by decide +kernel, by decide +kernel, by decide +kernel⟩
theorem d_alone_data : DTxt fs bs "alone_data" (top 11) n_alone_data ["message"] e_alone_data := ⟨s_alone_data, rfl, rfl, by decide, c_alone_data, fun kV doc pm an cdv ct us hl => match us, hl with | [_], _ => rfl⟩
def n_first_data : List Str := ["message"]
def m_first_data : Ss := (.cons (.ret (.bin .Add (.tup (.cons (.bin .Add (.glob "FIRST") (.bin .FloorDiv (.bi "len" (.cons (.var 0) .nil)) (.lit (.int 256)))) (.cons (.bin .Mod (.bi "len" (.cons (.var 0) .nil)) (.lit (.int 256))) .nil))) (.sl (.var 0) .none (.some (.glob "FIRST_BYTES"))))) .nil)
def e_first_data : Fn := ⟨1, 1, m_first_data⟩
theorem c_first_data : chkSs fs bs n_first_data (defScope (top 12)) m_first_data (defBody (top 12)) = true := by decide +kernel
theorem s_first_data : FnScope n_first_data ["message"] (defScope (top 12)) := ⟨by decide +kernel, by decide +kernel, by decide +kernel, by decide +kernel, by decide +kernel, by decide +kernel, by decide +kernel⟩
theorem d_first_data : DTxt fs bs "first_data" (top 12) n_first_data ["message"] e_first_data := ⟨s_first_data, rfl, rfl, by decide, c_first_data, fun kV doc pm an cdv ct us hl => match us, hl with | [_], _ => rfl⟩
def n_next_data : List Str := ["number", "part"]
def m_next_data : Ss := (.cons (.ret (.bin .Add (.tup (.cons (.bin .Add (.glob "NEXT") (.bin .Mod (.var 0) (.lit (.int 16)))) .nil)) (.var 1))) .nil)
def e_next_data : Fn := ⟨2, 2, m_next_data⟩
theorem c_next_data : chkSs fs bs n_next_data (defScope (top 13)) m_next_data (defBody (top 13)) = true := by decide +kernel
theorem s_next_data : FnScope n_next_data ["number", "part"] (defScope (top 13)) := ⟨by decide +kernel, by decide +kernel, by decide +kernel, by decide +kernel, by decide +kernel, by decide +kernel, by decide +kernel⟩
theorem d_next_data : DTxt fs bs "next_data" (top 13) n_next_data ["number", "part"] e_next_data := ⟨s_next_data, rfl, rfl, by decide, c_next_data, fun kV doc pm an cdv ct us hl => match us, hl with | [_, _], _ => rfl⟩
def n_flow_data : List Str := ["word", "block", "gap"]
def m_flow_data : Ss := (.cons (.ret (.tup (.cons (.bin .Add (.glob "FLOW") (.var 0)) (.cons (.var 1) (.cons (.var 2) .nil))))) .nil)
def e_flow_data : Fn := ⟨3, 3, m_flow_data⟩
theorem c_flow_data : chkSs fs bs n_flow_data (defScope (top 14)) m_flow_data (defBody (top 14)) = true := by decide +kernel
theorem s_flow_data : FnScope n_flow_data ["word", "block", "gap"] (defScope (top 14)) := ⟨by decide +kernel, by decide +kernel, by decide +kernel, by decide +kernel, by decide +kernel, by decide +kernel, by decide +kernel⟩
theorem d_flow_data : DTxt fs bs "flow_data" (top 14) n_flow_data ["word", "block", "gap"] e_flow_data := ⟨s_flow_data, rfl, rfl, by decide, c_flow_data, fun kV doc pm an cdv ct us hl => match us, hl with | [_, _, _], _ => rfl⟩
def n_datas_of : List Str := ["message", "at", "found", "number"]
def w_datas_of_0 : Ss := (.cons (.app 2 (.call "next_data" (.cons (.var 3) (.cons (.sl (.var 0) (.some (.var 1)) (.some (.bin .Add (.var 1) (.glob "NEXT_BYTES")))) .nil)))) (.cons (.aug 3 .Add (.lit (.int 1))) .nil))
def m_datas_of : Ss := (.cons (.ife (.cmp .LtE (.bi "len" (.cons (.var 0) .nil)) (.glob "ALONE_BYTES"))
  (.cons (.ret (.lst (.cons (.call "alone_data" (.cons (.var 0) .nil)) .nil))) .nil)
  .nil) (.cons (.par [2, 3] [.inr (.dsp (.cons (.call "first_data" (.cons (.var 0) .nil)) .nil)), .inl (.lit (.int 1))]) (.cons (.for_ (.nm 1) (.r3 (.glob "FIRST_BYTES") (.bi "len" (.cons (.var 0) .nil)) (.glob "NEXT_BYTES")) w_datas_of_0) (.frz 2 (.cons (.ret (.var 2)) .nil)))))
def e_datas_of : Fn := ⟨1, 4, m_datas_of⟩
theorem c_datas_of : chkSs fs bs n_datas_of (defScope (top 15)) m_datas_of (defBody (top 15)) = true := by decide +kernel
theorem s_datas_of : FnScope n_datas_of ["message"] (defScope (top 15)) := ⟨by decide +kernel, by decide +kernel, by decide +kernel, by decide +kernel, by decide +kernel, by decide +kernel, by decide +kernel⟩
theorem d_datas_of : DTxt fs bs "datas_of" (top 15) n_datas_of ["message"] e_datas_of := ⟨s_datas_of, rfl, rfl, by decide, c_datas_of, fun kV doc pm an cdv ct us hl => match us, hl with | [_], _ => rfl⟩
def n_read_alone : List Str := ["data", "many"]
def m_read_alone : Ss := (.cons (.set 1 (.bin .Sub (.ix (.var 0) (.lit (.int 0))) (.glob "ALONE"))) (.cons (.ret (.ife (.con (.cons (.cmp .LtE (.var 1) (.glob "ALONE_BYTES")) (.cons (.cmp .Eq (.bi "len" (.cons (.var 0) .nil)) (.bin .Add (.var 1) (.lit (.int 1)))) .nil))) (.tup (.cons (.lit (.str "alone")) (.cons (.sl (.var 0) (.some (.lit (.int 1))) .none) .nil))) (.lit .non))) .nil))
def e_read_alone : Fn := ⟨1, 2, m_read_alone⟩
theorem c_read_alone : chkSs fs bs n_read_alone (defScope (top 16)) m_read_alone (defBody (top 16)) = true := by decide +kernel
theorem s_read_alone : FnScope n_read_alone ["data"] (defScope (top 16)) := ⟨by decide +kernel, by decide +kernel, by decide +kernel, by decide +kernel, by decide +kernel, by decide +kernel, by decide +kernel⟩
theorem d_read_alone : DTxt fs bs "read_alone" (top 16) n_read_alone ["data"] e_read_alone := ⟨s_read_alone, rfl, rfl, by decide, c_read_alone, fun kV doc pm an cdv ct us hl => match us, hl with | [_], _ => rfl⟩
def n_read_first : List Str := ["data", "many"]
def m_read_first : Ss := (.cons (.ife (.cmp .NotEq (.bi "len" (.cons (.var 0) .nil)) (.bin .Add (.glob "FIRST_BYTES") (.lit (.int 2))))
  (.cons (.ret (.lit .non)) .nil)
  .nil) (.cons (.set 1 (.bin .Add (.bin .Mult (.bin .Sub (.ix (.var 0) (.lit (.int 0))) (.glob "FIRST")) (.lit (.int 256))) (.ix (.var 0) (.lit (.int 1))))) (.cons (.ret (.ife (.cmp .Gt (.var 1) (.glob "ALONE_BYTES")) (.tup (.cons (.lit (.str "first")) (.cons (.var 1) (.cons (.sl (.var 0) (.some (.lit (.int 2))) .none) .nil)))) (.lit .non))) .nil)))
def e_read_first : Fn := ⟨1, 2, m_read_first⟩
theorem c_read_first : chkSs fs bs n_read_first (defScope (top 17)) m_read_first (defBody (top 17)) = true := by decide +kernel
theorem s_read_first : FnScope n_read_first ["data"] (defScope (top 17)) := ⟨by decide +kernel, by decide +kernel, by decide +kernel, by decide +kernel, by decide +kernel, by decide +kernel, by decide +kernel⟩
theorem d_read_first : DTxt fs bs "read_first" (top 17) n_read_first ["data"] e_read_first := ⟨s_read_first, rfl, rfl, by decide, c_read_first, fun kV doc pm an cdv ct us hl => match us, hl with | [_], _ => rfl⟩
def n_read_data : List Str := ["data"]
def m_read_data : Ss := (.cons (.ife (.cmp .Eq (.var 0) (.tup .nil))
  (.cons (.ret (.lit .non)) .nil)
  .nil) (.cons (.ife (.cmp .Lt (.ix (.var 0) (.lit (.int 0))) (.glob "FIRST"))
  (.cons (.ret (.call "read_alone" (.cons (.var 0) .nil))) .nil)
  .nil) (.cons (.ife (.cmp .Lt (.ix (.var 0) (.lit (.int 0))) (.glob "NEXT"))
  (.cons (.ret (.call "read_first" (.cons (.var 0) .nil))) .nil)
  .nil) (.cons (.ife (.cmp .Lt (.ix (.var 0) (.lit (.int 0))) (.glob "FLOW"))
  (.cons (.ret (.ife (.cmp .Gt (.bi "len" (.cons (.var 0) .nil)) (.lit (.int 1))) (.tup (.cons (.lit (.str "next")) (.cons (.bin .Sub (.ix (.var 0) (.lit (.int 0))) (.glob "NEXT")) (.cons (.sl (.var 0) (.some (.lit (.int 1))) .none) .nil)))) (.lit .non))) .nil)
  .nil) (.cons (.ife (.con (.cons (.cmp .Eq (.bi "len" (.cons (.var 0) .nil)) (.lit (.int 3))) (.cons (.cmp .LtE (.ix (.var 0) (.lit (.int 0))) (.bin .Add (.glob "FLOW") (.glob "TOO_MUCH"))) .nil)))
  (.cons (.ret (.tup (.cons (.lit (.str "flow")) (.cons (.bin .Sub (.ix (.var 0) (.lit (.int 0))) (.glob "FLOW")) (.cons (.ix (.var 0) (.lit (.int 1))) (.cons (.ix (.var 0) (.lit (.int 2))) .nil)))))) .nil)
  .nil) (.cons (.ret (.lit .non)) .nil))))))
def e_read_data : Fn := ⟨1, 1, m_read_data⟩
theorem c_read_data : chkSs fs bs n_read_data (defScope (top 18)) m_read_data (defBody (top 18)) = true := by decide +kernel
theorem s_read_data : FnScope n_read_data ["data"] (defScope (top 18)) := ⟨by decide +kernel, by decide +kernel, by decide +kernel, by decide +kernel, by decide +kernel, by decide +kernel, by decide +kernel⟩
theorem d_read_data : DTxt fs bs "read_data" (top 18) n_read_data ["data"] e_read_data := ⟨s_read_data, rfl, rfl, by decide, c_read_data, fun kV doc pm an cdv ct us hl => match us, hl with | [_], _ => rfl⟩
def n_frames_needed : List Str := ["size"]
def m_frames_needed : Ss := (.cons (.ret (.ife (.cmp .LtE (.var 0) (.glob "ALONE_BYTES")) (.lit (.int 1)) (.bin .Sub (.lit (.int 1)) (.bin .FloorDiv (.bin .Sub (.glob "FIRST_BYTES") (.var 0)) (.glob "NEXT_BYTES"))))) .nil)
def e_frames_needed : Fn := ⟨1, 1, m_frames_needed⟩
theorem c_frames_needed : chkSs fs bs n_frames_needed (defScope (top 19)) m_frames_needed (defBody (top 19)) = true := by decide +kernel
theorem s_frames_needed : FnScope n_frames_needed ["size"] (defScope (top 19)) := ⟨by decide +kernel, by decide +kernel, by decide +kernel, by decide +kernel, by decide +kernel, by decide +kernel, by decide +kernel⟩
theorem d_frames_needed : DTxt fs bs "frames_needed" (top 19) n_frames_needed ["size"] e_frames_needed := ⟨s_frames_needed, rfl, rfl, by decide, c_frames_needed, fun kV doc pm an cdv ct us hl => match us, hl with | [_], _ => rfl⟩
def n_flows_needed : List Str := ["size", "block", "nexts"]
def m_flows_needed : Ss := (.cons (.set 2 (.bin .Sub (.call "frames_needed" (.cons (.var 0) .nil)) (.lit (.int 1)))) (.cons (.ife (.cmp .Eq (.var 2) (.lit (.int 0)))
  (.cons (.ret (.lit (.int 0))) .nil)
  .nil) (.cons (.ret (.ife (.cmp .Eq (.var 1) (.lit (.int 0))) (.lit (.int 1)) (.neg (.bin .FloorDiv (.neg (.var 2)) (.var 1))))) .nil)))
def e_flows_needed : Fn := ⟨2, 3, m_flows_needed⟩
theorem c_flows_needed : chkSs fs bs n_flows_needed (defScope (top 20)) m_flows_needed (defBody (top 20)) = true := by decide +kernel
theorem s_flows_needed : FnScope n_flows_needed ["size", "block"] (defScope (top 20)) := ⟨by decide +kernel, by decide +kernel, by decide +kernel, by decide +kernel, by decide +kernel, by decide +kernel, by decide +kernel⟩
theorem d_flows_needed : DTxt fs bs "flows_needed" (top 20) n_flows_needed ["size", "block"] e_flows_needed := ⟨s_flows_needed, rfl, rfl, by decide, c_flows_needed, fun kV doc pm an cdv ct us hl => match us, hl with | [_, _], _ => rfl⟩
def n_ticks_needed : List Str := ["size", "block", "gap"]
def m_ticks_needed : Ss := (.cons (.ret (.bin .Mult (.bin .Sub (.bin .Sub (.call "frames_needed" (.cons (.var 0) .nil)) (.lit (.int 1))) (.call "flows_needed" (.cons (.var 0) (.cons (.var 1) .nil)))) (.var 2))) .nil)
def e_ticks_needed : Fn := ⟨3, 3, m_ticks_needed⟩
theorem c_ticks_needed : chkSs fs bs n_ticks_needed (defScope (top 21)) m_ticks_needed (defBody (top 21)) = true := by decide +kernel
theorem s_ticks_needed : FnScope n_ticks_needed ["size", "block", "gap"] (defScope (top 21)) := ⟨by decide +kernel, by decide +kernel, by decide +kernel, by decide +kernel, by decide +kernel, by decide +kernel, by decide +kernel⟩
theorem d_ticks_needed : DTxt fs bs "ticks_needed" (top 21) n_ticks_needed ["size", "block", "gap"] e_ticks_needed := ⟨s_ticks_needed, rfl, rfl, by decide, c_ticks_needed, fun kV doc pm an cdv ct us hl => match us, hl with | [_, _, _], _ => rfl⟩
def n_carried : List Str := ["message", "room", "block", "gap", "lost", "sender", "taker", "ticks", "count", "data", "back"]
def w_carried_0 : Ss := (.cons (.set 9 (.mcl "LongSender" "data" (.var 5) .nil)) (.cons (.ife (.cmp .Is (.var 9) (.lit .non))
  (.cons (.exp (.mcl "LongSender" "tick" (.var 5) .nil)) (.cons (.exp (.mcl "LongTaker" "tick" (.var 6) .nil)) (.cons (.aug 7 .Add (.lit (.int 1))) (.cons .cnt .nil))))
  .nil) (.cons (.exp (.mcl "LongSender" "sent" (.var 5) .nil)) (.cons (.aug 8 .Add (.lit (.int 1))) (.cons (.set 10 (.ife (.cmp .NotIn (.bin .Sub (.var 8) (.lit (.int 1))) (.var 4)) (.mcl "LongTaker" "hear" (.var 6) (.cons (.var 9) .nil)) (.lit .non))) (.cons (.ife (.cmp .IsNot (.var 10) (.lit .non))
  (.cons (.aug 8 .Add (.lit (.int 1))) (.cons (.ife (.cmp .NotIn (.bin .Sub (.var 8) (.lit (.int 1))) (.var 4))
  (.cons (.exp (.mcl "LongSender" "hear" (.var 5) (.cons (.var 10) .nil))) .nil)
  .nil) .nil))
  .nil) .nil))))))
def m_carried : Ss := (.cons (.par [5, 6, 7, 8] [.inl (.mk "LongSender" (.cons (.var 0) .nil)), .inl (.mk "LongTaker" (.cons (.var 1) (.cons (.var 2) (.cons (.var 3) .nil)))), .inl (.lit (.int 0)), .inl (.lit (.int 0))]) (.cons (.whl (.cmp .Eq (.mcl "LongSender" "state" (.var 5) .nil) (.lit (.str "going"))) w_carried_0) (.cons (.ret (.tup (.cons (.mcl "LongTaker" "messages" (.var 6) .nil) (.cons (.mcl "LongSender" "state" (.var 5) .nil) (.cons (.var 7) .nil))))) .nil)))
def e_carried : Fn := ⟨5, 11, m_carried⟩
theorem c_carried : chkSs fs bs n_carried (defScope (top 27)) m_carried (defBody (top 27)) = true := by decide +kernel
theorem s_carried : FnScope n_carried ["message", "room", "block", "gap", "lost"] (defScope (top 27)) := ⟨by decide +kernel, by decide +kernel, by decide +kernel, by decide +kernel, by decide +kernel, by decide +kernel, by decide +kernel⟩
theorem d_carried : DTxt fs bs "carried" (top 27) n_carried ["message", "room", "block", "gap", "lost"] e_carried := ⟨s_carried, rfl, rfl, by decide, c_carried, fun kV doc pm an cdv ct us hl => match us, hl with | [_, _, _, _, _], _ => rfl⟩
def n__law_box : List Str := ["script"]
def m__law_box : Ss := (.cons (.ret (.onew (.cons (.olist (.sl (.var 0) .none (.some (.lit (.int 63))))) (.cons (.lit (.int 0)) (.cons (.bin .Add (.lit (.int 4711)) (.bi "len" (.cons (.var 0) .nil))) .nil))))) .nil)
def e__law_box : Fn := ⟨1, 1, m__law_box⟩
theorem c__law_box : chkSs fs bs n__law_box (defScope (top 29)) m__law_box (defBody (top 29)) = true := by decide +kernel
theorem s__law_box : FnScope n__law_box ["script"] (defScope (top 29)) := ⟨by decide +kernel, by decide +kernel, by decide +kernel, by decide +kernel, by decide +kernel, by decide +kernel, by decide +kernel⟩
theorem d__law_box : DTxt fs bs "_law_box" (top 29) n__law_box ["script"] e__law_box := ⟨s__law_box, rfl, rfl, by decide, c__law_box, fun kV doc pm an cdv ct us hl => match us, hl with | [_], _ => rfl⟩
def n__law_load : List Str := ["box", "cells", "first", "second", "cell", "size"]
def m__law_load : Ss := (.cons (.set 1 (.oix (.var 0) (.lit (.int 0)))) (.cons (.ife (.cmp .Gt (.olen (.var 1)) (.lit (.int 0)))
  (.cons (.set 4 (.bi "int" (.cons (.om "pop" (.var 1) (.lit (.int 0))) .nil))) (.cons (.set 5 (.ife (.cmp .GtE (.var 4) (.lit (.int 0))) (.bin .Mult (.lit (.int 2)) (.var 4)) (.bin .Sub (.bin .Mult (.neg (.lit (.int 2))) (.var 4)) (.lit (.int 1))))) (.cons (.ife (.cmp .GtE (.var 5) (.lit (.int 1000000000000000000)))
  (.cons (.ret (.var 5)) .nil)
  .nil) (.cons (.oput (.var 0) (.lit (.int 2)) (.bin .Mod (.bi "int" (.cons (.bin .Add (.bin .Add (.bin .Mult (.oix (.var 0) (.lit (.int 2))) (.lit (.int 69621))) (.bin .Mult (.var 5) (.lit (.int 48271)))) (.lit (.int 11))) .nil)) (.lit (.int 2147483647)))) .nil))))
  .nil) (.cons (.set 2 (.bin .Mod (.bi "int" (.cons (.bin .Add (.bin .Mult (.oix (.var 0) (.lit (.int 2))) (.lit (.int 48271))) (.lit (.int 17))) .nil)) (.lit (.int 2147483629)))) (.cons (.set 3 (.bin .Mod (.bi "int" (.cons (.bin .Add (.bin .Mult (.var 2) (.lit (.int 69621))) (.lit (.int 5))) .nil)) (.lit (.int 2147483587)))) (.cons (.oput (.var 0) (.lit (.int 2)) (.bin .Mod (.bi "int" (.cons (.bin .Add (.bin .Mult (.var 3) (.lit (.int 40692))) (.lit (.int 3))) .nil)) (.lit (.int 2147483563)))) (.cons (.ret (.bin .Add (.bin .Add (.bin .Mult (.var 2) (.lit (.int 4611686014132420609))) (.bin .Mult (.var 3) (.lit (.int 2147483647)))) (.oix (.var 0) (.lit (.int 2))))) .nil))))))
def e__law_load : Fn := ⟨1, 6, m__law_load⟩
theorem c__law_load : chkSs fs bs n__law_load (defScope (top 30)) m__law_load (defBody (top 30)) = true := by decide +kernel
theorem s__law_load : FnScope n__law_load ["box"] (defScope (top 30)) := ⟨by decide +kernel, by decide +kernel, by decide +kernel, by decide +kernel, by decide +kernel, by decide +kernel, by decide +kernel⟩
theorem d__law_load : DTxt fs bs "_law_load" (top 30) n__law_load ["box"] e__law_load := ⟨s__law_load, rfl, rfl, by decide, c__law_load, fun kV doc pm an cdv ct us hl => match us, hl with | [_], _ => rfl⟩
def n__law_draw : List Str := ["box", "many", "digit"]
def m__law_draw : Ss := (.cons (.ife (.cmp .Lt (.oix (.var 0) (.lit (.int 1))) (.var 1))
  (.cons (.oput (.var 0) (.lit (.int 1)) (.call "_law_load" (.cons (.var 0) .nil))) .nil)
  .nil) (.cons (.set 2 (.bin .Mod (.bi "int" (.cons (.oix (.var 0) (.lit (.int 1))) .nil)) (.var 1))) (.cons (.oput (.var 0) (.lit (.int 1)) (.bin .FloorDiv (.oix (.var 0) (.lit (.int 1))) (.var 1))) (.cons (.ret (.var 2)) .nil))))
def e__law_draw : Fn := ⟨2, 3, m__law_draw⟩
theorem c__law_draw : chkSs fs bs n__law_draw (defScope (top 31)) m__law_draw (defBody (top 31)) = true := by decide +kernel
theorem s__law_draw : FnScope n__law_draw ["box", "many"] (defScope (top 31)) := ⟨by decide +kernel, by decide +kernel, by decide +kernel, by decide +kernel, by decide +kernel, by decide +kernel, by decide +kernel⟩
theorem d__law_draw : DTxt fs bs "_law_draw" (top 31) n__law_draw ["box", "many"] e__law_draw := ⟨s__law_draw, rfl, rfl, by decide, c__law_draw, fun kV doc pm an cdv ct us hl => match us, hl with | [_, _], _ => rfl⟩
def n__law_same : List Str := ["a", "b", "k"]
def m__law_same : Ss := (.cons (.ife (.dis (.cons (.con (.cons (.isi (.var 0) "tuple") (.cons (.isi (.var 1) "tuple") .nil))) (.cons (.con (.cons (.isi (.var 0) "list") (.cons (.isi (.var 1) "list") .nil))) .nil)))
  (.cons (.ret (.con (.cons (.cmp .Eq (.bi "len" (.cons (.var 0) .nil)) (.bi "len" (.cons (.var 1) .nil))) (.cons (.bi "all" (.cons (.lc (.call "_law_same" (.cons (.ix (.var 0) (.var 2)) (.cons (.ix (.var 1) (.var 2)) .nil))) (.nm 2) (.r1 (.bi "len" (.cons (.var 0) .nil))) .none [("k", 2)]) .nil)) .nil)))) .nil)
  .nil) (.cons (.ife (.dis (.cons (.isi (.var 0) "bool") (.cons (.isi (.var 1) "bool") .nil)))
  (.cons (.ret (.con (.cons (.isi (.var 0) "bool") (.cons (.isi (.var 1) "bool") (.cons (.cmp .Eq (.var 0) (.var 1)) .nil))))) .nil)
  .nil) (.cons (.ife (.dis (.cons (.con (.cons (.isi (.var 0) "int") (.cons (.isi (.var 1) "int") .nil))) (.cons (.con (.cons (.isi (.var 0) "str") (.cons (.isi (.var 1) "str") .nil))) .nil)))
  (.cons (.ret (.cmp .Eq (.var 0) (.var 1))) .nil)
  .nil) (.cons (.ret (.con (.cons (.cmp .Is (.var 0) (.lit .non)) (.cons (.cmp .Is (.var 1) (.lit .non)) .nil)))) .nil))))
def e__law_same : Fn := ⟨2, 3, m__law_same⟩
theorem c__law_same : chkSs fs bs n__law_same (defScope (top 32)) m__law_same (defBody (top 32)) = true := by decide +kernel
theorem s__law_same : FnScope n__law_same ["a", "b"] (defScope (top 32)) := ⟨by decide +kernel, by decide +kernel, by decide +kernel, by decide +kernel, by decide +kernel, by decide +kernel, by decide +kernel⟩
theorem d__law_same : DTxt fs bs "_law_same" (top 32) n__law_same ["a", "b"] e__law_same := ⟨s__law_same, rfl, rfl, by decide, c__law_same, fun kV doc pm an cdv ct us hl => match us, hl with | [_, _], _ => rfl⟩
def n__law_message : List Str := ["box", "most", "step"]
def m__law_message : Ss := (.cons (.ret (.bi "tuple" (.cons (.lc (.call "_law_draw" (.cons (.var 0) (.cons (.ix (.lst (.cons (.lit (.int 3)) (.cons (.lit (.int 256)) .nil))) (.call "_law_draw" (.cons (.var 0) (.cons (.lit (.int 2)) .nil)))) .nil))) (.nm 2) (.r1 (.call "_law_draw" (.cons (.var 0) (.cons (.var 1) .nil)))) .none [("step", 2)]) .nil))) .nil)
def e__law_message : Fn := ⟨2, 3, m__law_message⟩
theorem c__law_message : chkSs fs bs n__law_message (defScope (top 33)) m__law_message (defBody (top 33)) = true := by decide +kernel
theorem s__law_message : FnScope n__law_message ["box", "most"] (defScope (top 33)) := ⟨by decide +kernel, by decide +kernel, by decide +kernel, by decide +kernel, by decide +kernel, by decide +kernel, by decide +kernel⟩
theorem d__law_message : DTxt fs bs "_law_message" (top 33) n__law_message ["box", "most"] e__law_message := ⟨s__law_message, rfl, rfl, by decide, c__law_message, fun kV doc pm an cdv ct us hl => match us, hl with | [_, _], _ => rfl⟩
def n__law_exchange : List Str := ["message", "room", "block", "nexts", "found", "k"]
def w__law_exchange_0 : Ss := (.cons (.app 4 (.lit (.bl true))) (.cons (.ext 4 (.ife (.con (.cons (.cmp .Gt (.var 2) (.lit (.int 0))) (.cons (.cmp .Eq (.bin .Mult (.bin .FloorDiv (.var 5) (.var 2)) (.var 2)) (.var 5)) (.cons (.cmp .Lt (.var 5) (.var 3)) .nil)))) (.lst (.cons (.lit (.bl false)) .nil)) (.lst .nil))) .nil))
def m__law_exchange : Ss := (.cons (.set 3 (.bin .Sub (.bi "len" (.cons (.call "datas_of" (.cons (.var 0) .nil)) .nil)) (.lit (.int 1)))) (.cons (.ife (.con (.cons (.cmp .Gt (.bi "len" (.cons (.var 0) .nil)) (.lit (.int 7))) (.cons (.cmp .Gt (.bi "len" (.cons (.var 0) .nil)) (.var 1)) .nil)))
  (.cons (.ret (.lst (.cons (.lit (.bl true)) (.cons (.lit (.bl false)) .nil)))) .nil)
  .nil) (.cons (.new 4 (.cat (.lst (.cons (.lit (.bl true)) .nil)) (.ife (.cmp .Gt (.var 3) (.lit (.int 0))) (.lst (.cons (.lit (.bl false)) .nil)) (.lst .nil)))) (.cons (.for_ (.nm 5) (.r2 (.lit (.int 1)) (.bin .Add (.var 3) (.lit (.int 1)))) w__law_exchange_0) (.frz 4 (.cons (.ret (.var 4)) .nil))))))
def e__law_exchange : Fn := ⟨3, 6, m__law_exchange⟩
theorem c__law_exchange : chkSs fs bs n__law_exchange (defScope (top 34)) m__law_exchange (defBody (top 34)) = true := by decide +kernel
theorem s__law_exchange : FnScope n__law_exchange ["message", "room", "block"] (defScope (top 34)) := ⟨by decide +kernel, by decide +kernel, by decide +kernel, by decide +kernel, by decide +kernel, by decide +kernel, by decide +kernel⟩
theorem d__law_exchange : DTxt fs bs "_law_exchange" (top 34) n__law_exchange ["message", "room", "block"] e__law_exchange := ⟨s__law_exchange, rfl, rfl, by decide, c__law_exchange, fun kV doc pm an cdv ct us hl => match us, hl with | [_, _, _], _ => rfl⟩
def n__law_given : List Str := ["taker", "datas", "twice", "found", "k", "step", "back"]
def w__law_given_0 : Ss := (.cons (.set 6 (.mcl "LongTaker" "hear" (.var 0) (.cons (.ix (.var 1) (.var 4)) .nil))) (.cons (.ext 3 (.ife (.cmp .IsNot (.var 6) (.lit .non)) (.lst (.cons (.var 6) .nil)) (.lst .nil))) .nil))
def w__law_given_1 : Ss := (.cons (.for_ (.nm 5) (.r1 (.ife (.cmp .In (.var 4) (.var 2)) (.lit (.int 2)) (.lit (.int 1)))) w__law_given_0) .nil)
def m__law_given : Ss := (.cons (.new 3 (.dsp .nil)) (.cons (.for_ (.nm 4) (.r1 (.bi "len" (.cons (.var 1) .nil))) w__law_given_1) (.frz 3 (.cons (.ret (.var 3)) .nil))))
def e__law_given : Fn := ⟨3, 7, m__law_given⟩
theorem c__law_given : chkSs fs bs n__law_given (defScope (top 35)) m__law_given (defBody (top 35)) = true := by decide +kernel
theorem s__law_given : FnScope n__law_given ["taker", "datas", "twice"] (defScope (top 35)) := ⟨by decide +kernel, by decide +kernel, by decide +kernel, by decide +kernel, by decide +kernel, by decide +kernel, by decide +kernel⟩
theorem d__law_given : DTxt fs bs "_law_given" (top 35) n__law_given ["taker", "datas", "twice"] e__law_given := ⟨s__law_given, rfl, rfl, by decide, c__law_given, fun kV doc pm an cdv ct us hl => match us, hl with | [_, _, _], _ => rfl⟩
def n__law_patient : List Str := ["sender", "first", "step", "slow", "tick", "taker"]
def w__law_patient_0 : Ss := (.cons (.exp (.mcl "LongSender" "tick" (.var 0) .nil)) .nil)
def w__law_patient_1 : Ss := (.cons (.for_ (.nm 4) (.r1 (.lit (.int 20))) w__law_patient_0) (.cons (.exp (.mcl "LongSender" "hear" (.var 0) (.cons (.call "flow_data" (.cons (.lit (.int 1)) (.cons (.lit (.int 0)) (.cons (.lit (.int 0)) .nil)))) .nil))) (.cons (.ife (.dis (.cons (.cmp .NotEq (.mcl "LongSender" "state" (.var 0) .nil) (.lit (.str "going"))) (.cons (.cmp .IsNot (.mcl "LongSender" "data" (.var 0) .nil) (.lit .non)) .nil)))
  (.cons (.ret (.lit (.bl false))) .nil)
  .nil) .nil)))
def w__law_patient_2 : Ss := (.cons (.exp (.mcl "LongSender" "tick" (.var 3) .nil)) .nil)
def w__law_patient_3 : Ss := (.cons (.exp (.mcl "LongTaker" "tick" (.var 5) .nil)) .nil)
def m__law_patient : Ss := (.cons (.set 0 (.mk "LongSender" (.cons (.bin .Mult (.tup (.cons (.lit (.int 5)) .nil)) (.lit (.int 20))) .nil))) (.cons (.set 1 (.ix (.call "datas_of" (.cons (.bin .Mult (.tup (.cons (.lit (.int 5)) .nil)) (.lit (.int 20))) .nil)) (.lit (.int 0)))) (.cons (.exp (.mcl "LongSender" "hear" (.var 0) (.cons (.call "flow_data" (.cons (.lit (.int 0)) (.cons (.lit (.int 0)) (.cons (.lit (.int 0)) .nil)))) .nil))) (.cons (.ife (.not (.call "_law_same" (.cons (.mcl "LongSender" "data" (.var 0) .nil) (.cons (.var 1) .nil))))
  (.cons (.ret (.lit (.bl false))) .nil)
  .nil) (.cons (.exp (.mcl "LongSender" "sent" (.var 0) .nil)) (.cons (.for_ (.nm 2) (.r1 (.lit (.int 4))) w__law_patient_1) (.cons (.exp (.mcl "LongSender" "hear" (.var 0) (.cons (.call "flow_data" (.cons (.lit (.int 1)) (.cons (.lit (.int 0)) (.cons (.lit (.int 0)) .nil)))) .nil))) (.cons (.set 3 (.mk "LongSender" (.cons (.bin .Mult (.tup (.cons (.lit (.int 5)) .nil)) (.lit (.int 20))) .nil))) (.cons (.exp (.mcl "LongSender" "sent" (.var 3) .nil)) (.cons (.for_ (.nm 4) (.r1 (.lit (.int 21))) w__law_patient_2) (.cons (.set 5 (.mk "LongTaker" (.cons (.lit (.int 20)) (.cons (.lit (.int 0)) (.cons (.lit (.int 3)) .nil))))) (.cons (.exp (.mcl "LongTaker" "hear" (.var 5) (.cons (.var 1) .nil))) (.cons (.for_ (.nm 4) (.r1 (.lit (.int 24))) w__law_patient_3) (.cons (.ret (.call "_law_same" (.cons (.tup (.cons (.mcl "LongSender" "state" (.var 0) .nil) (.cons (.mcl "LongSender" "state" (.var 3) .nil) (.cons (.mcl "LongTaker" "refused" (.var 5) .nil) .nil)))) (.cons (.tup (.cons (.lit (.str "refused")) (.cons (.lit (.str "refused")) (.cons (.lit (.int 1)) .nil)))) .nil)))) .nil))))))))))))))
def e__law_patient : Fn := ⟨0, 6, m__law_patient⟩
theorem c__law_patient : chkSs fs bs n__law_patient (defScope (top 36)) m__law_patient (defBody (top 36)) = true := by decide +kernel
theorem s__law_patient : FnScope n__law_patient [] (defScope (top 36)) := ⟨by decide +kernel, by decide +kernel, by decide +kernel, by decide +kernel, by decide +kernel, by decide +kernel, by decide +kernel⟩
theorem d__law_patient : DTxt fs bs "_law_patient" (top 36) n__law_patient [] e__law_patient := ⟨s__law_patient, rfl, rfl, by decide, c__law_patient, fun kV doc pm an cdv ct us hl => match us, hl with | [], _ => rfl⟩
def n_law : List Str := ["script", "box", "turn", "room", "told", "step", "out", "twice", "left", "flows", "other", "open_one", "message", "block", "gap", "row", "fits", "lost", "first", "got", "datas", "taker", "before", "given", "k", "j", "flow", "one", "more"]
def w_law_0 : Ss := (.cons (.set 17 (.bi "tuple" (.cons (.sdic (.lc (.tup (.cons (.call "_law_draw" (.cons (.var 1) (.cons (.bin .Add (.bi "len" (.cons (.var 15) .nil)) (.lit (.int 2))) .nil))) (.cons (.lit (.int 1)) .nil))) (.nm 28) (.r1 (.bin .Add (.lit (.int 1)) (.call "_law_draw" (.cons (.var 1) (.cons (.lit (.int 2)) .nil))))) .none [("more", 28)])) .nil))) (.cons (.set 18 (.lc (.var 24) (.nm 24) (.sq (.var 17)) (.some (.cmp .Lt (.var 24) (.bi "len" (.cons (.var 15) .nil)))) [("k", 24)])) (.cons (.set 19 (.call "carried" (.cons (.var 12) (.cons (.var 3) (.cons (.var 13) (.cons (.var 14) (.cons (.var 17) .nil))))))) (.cons (.ife (.not (.call "_law_same" (.cons (.ix (.var 19) (.lit (.int 0))) (.cons (.ife (.con (.cons (.var 16) (.cons (.cmp .Eq (.bi "len" (.cons (.var 18) .nil)) (.lit (.int 0))) .nil))) (.tup (.cons (.var 12) .nil)) (.tup .nil)) .nil))))
  (.cons (.ret (.lit (.bl false))) .nil)
  .nil) (.cons (.ife (.dis (.cons (.con (.cons (.var 16) (.cons (.cmp .Gt (.bi "len" (.cons (.var 18) .nil)) (.lit (.int 0))) (.cons (.not (.ix (.var 15) (.ix (.var 18) (.lit (.int 0))))) (.cons (.cmp .NotEq (.ix (.var 19) (.lit (.int 1))) (.lit (.str "refused"))) .nil))))) (.cons (.con (.cons (.cmp .Eq (.bi "len" (.cons (.var 18) .nil)) (.lit (.int 0))) (.cons (.cmp .NotEq (.ix (.var 19) (.lit (.int 1))) (.ife (.var 16) (.lit (.str "done")) (.lit (.str "refused")))) .nil))) .nil)))
  (.cons (.ret (.lit (.bl false))) .nil)
  .nil) .nil)))))
def w_law_1 : Ss := (.cons (.par [12, 13, 14] [.inl (.call "_law_message" (.cons (.var 1) (.cons (.lit (.int 60)) .nil))), .inl (.call "_law_draw" (.cons (.var 1) (.cons (.lit (.int 4)) .nil))), .inl (.ix (.lst (.cons (.lit (.int 0)) (.cons (.lit (.int 2)) (.cons (.lit (.int 30)) .nil)))) (.call "_law_draw" (.cons (.var 1) (.cons (.lit (.int 3)) .nil))))]) (.cons (.set 3 (.bin .Sub (.bin .Add (.bi "len" (.cons (.var 12) .nil)) (.call "_law_draw" (.cons (.var 1) (.cons (.lit (.int 5)) .nil)))) (.lit (.int 1)))) (.cons (.par [15, 16] [.inl (.call "_law_exchange" (.cons (.var 12) (.cons (.var 3) (.cons (.var 13) .nil)))), .inl (.dis (.cons (.cmp .Lt (.bi "len" (.cons (.var 12) .nil)) (.lit (.int 8))) (.cons (.cmp .GtE (.var 3) (.bi "len" (.cons (.var 12) .nil))) .nil)))]) (.cons (.set 4 (.call "carried" (.cons (.var 12) (.cons (.var 3) (.cons (.var 13) (.cons (.var 14) (.cons (.tup .nil) .nil))))))) (.cons (.ife (.not (.call "_law_same" (.cons (.var 4) (.cons (.ife (.var 16) (.tup (.cons (.tup (.cons (.var 12) .nil)) (.cons (.lit (.str "done")) (.cons (.call "ticks_needed" (.cons (.bi "len" (.cons (.var 12) .nil)) (.cons (.var 13) (.cons (.var 14) .nil)))) .nil)))) (.tup (.cons (.tup .nil) (.cons (.lit (.str "refused")) (.cons (.lit (.int 0)) .nil))))) .nil))))
  (.cons (.ret (.lit (.bl false))) .nil)
  .nil) (.cons (.ife (.con (.cons (.var 16) (.cons (.cmp .NotEq (.tup (.cons (.bi "len" (.cons (.lc (.var 27) (.nm 27) (.sq (.var 15)) (.some (.var 27)) [("one", 27)]) .nil)) (.cons (.bi "len" (.cons (.lc (.var 27) (.nm 27) (.sq (.var 15)) (.some (.not (.var 27))) [("one", 27)]) .nil)) .nil))) (.tup (.cons (.call "frames_needed" (.cons (.bi "len" (.cons (.var 12) .nil)) .nil)) (.cons (.call "flows_needed" (.cons (.bi "len" (.cons (.var 12) .nil)) (.cons (.var 13) .nil))) .nil)))) .nil)))
  (.cons (.ret (.lit (.bl false))) .nil)
  .nil) (.cons (.for_ (.nm 5) (.r1 (.lit (.int 3))) w_law_0) (.cons (.par [20, 21] [.inl (.call "datas_of" (.cons (.var 12) .nil)), .inl (.mk "LongTaker" (.cons (.lit (.int 99)) (.cons (.var 13) (.cons (.var 14) .nil))))]) (.cons (.set 6 (.lc (.var 24) (.nm 24) (.r1 (.bi "len" (.cons (.var 20) .nil))) (.some (.cmp .Eq (.call "_law_draw" (.cons (.var 1) (.cons (.lit (.int 9)) .nil))) (.lit (.int 0)))) [("k", 24)])) (.cons (.set 7 (.lc (.var 24) (.nm 24) (.r1 (.bi "len" (.cons (.var 20) .nil))) (.some (.con (.cons (.cmp .Eq (.call "_law_draw" (.cons (.var 1) (.cons (.lit (.int 3)) .nil))) (.lit (.int 0))) (.cons (.cmp .Gt (.bi "len" (.cons (.var 12) .nil)) (.lit (.int 7))) .nil)))) [("k", 24)])) (.cons (.set 8 (.lc (.var 24) (.nm 24) (.r1 (.bi "len" (.cons (.var 20) .nil))) (.some (.cmp .NotIn (.var 24) (.var 6))) [("k", 24)])) (.cons (.set 9 (.call "_law_given" (.cons (.var 21) (.cons (.lc (.ix (.var 20) (.var 24)) (.nm 24) (.sq (.var 8)) .none [("k", 24)]) (.cons (.lc (.var 25) (.nm 25) (.r1 (.bi "len" (.cons (.var 8) .nil))) (.some (.cmp .In (.ix (.var 8) (.var 25)) (.var 7))) [("j", 25)]) .nil))))) (.cons (.ife (.dis (.cons (.not (.call "_law_same" (.cons (.mcl "LongTaker" "messages" (.var 21) .nil) (.cons (.ife (.cmp .Eq (.bi "len" (.cons (.var 6) .nil)) (.lit (.int 0))) (.tup (.cons (.var 12) .nil)) (.tup .nil)) .nil)))) (.cons (.not (.bi "all" (.cons (.lc (.call "_law_same" (.cons (.var 26) (.cons (.call "flow_data" (.cons (.lit (.int 0)) (.cons (.var 13) (.cons (.var 14) .nil)))) .nil))) (.nm 26) (.sq (.var 9)) .none [("flow", 26)]) .nil))) .nil)))
  (.cons (.ret (.lit (.bl false))) .nil)
  .nil) (.cons (.set 10 (.call "_law_message" (.cons (.var 1) (.cons (.lit (.int 30)) .nil)))) (.cons (.par [22, 23] [.inl (.mcl "LongTaker" "refused" (.var 21) .nil), .inl (.mcl "LongTaker" "messages" (.var 21) .nil)]) (.cons (.set 11 (.con (.cons (.cmp .Gt (.bi "len" (.cons (.var 12) .nil)) (.lit (.int 7))) (.cons (.cmp .In (.lit (.int 0)) (.var 8)) (.cons (.cmp .Gt (.bi "len" (.cons (.var 6) .nil)) (.lit (.int 0))) (.cons (.cmp .Eq (.ix (.var 8) (.neg (.lit (.int 1)))) (.bin .Sub (.bi "len" (.cons (.var 8) .nil)) (.lit (.int 1)))) .nil)))))) (.cons (.set 11 (.con (.cons (.var 11) (.cons (.not (.con (.cons (.cmp .Eq (.bi "len" (.cons (.var 8) .nil)) (.lit (.int 1))) (.cons (.cmp .Eq (.ix (.call "datas_of" (.cons (.var 10) .nil)) (.lit (.int 0))) (.ix (.var 20) (.lit (.int 0)))) .nil)))) .nil)))) (.cons (.exp (.call "_law_given" (.cons (.var 21) (.cons (.call "datas_of" (.cons (.var 10) .nil)) (.cons (.lst .nil) .nil))))) (.cons (.ife (.dis (.cons (.not (.call "_law_same" (.cons (.mcl "LongTaker" "messages" (.var 21) .nil) (.cons (.bin .Add (.var 23) (.tup (.cons (.var 10) .nil))) .nil)))) (.cons (.not (.call "_law_same" (.cons (.mcl "LongTaker" "refused" (.var 21) .nil) (.cons (.bin .Add (.var 22) (.bi "int" (.cons (.var 11) .nil))) .nil)))) .nil)))
  (.cons (.ret (.lit (.bl false))) .nil)
  .nil) .nil)))))))))))))))))))
def m_law : Ss := (.cons (.set 1 (.call "_law_box" (.cons (.var 0) .nil))) (.cons (.ife (.cmp .NotEq (.tup (.cons (.glob "MOST_WAITS") (.cons (.glob "PATIENCE") .nil))) (.tup (.cons (.lit (.int 4)) (.cons (.lit (.int 20)) .nil))))
  (.cons (.ret (.lit (.bl false))) .nil)
  .nil) (.cons (.for_ (.nm 2) (.r1 (.lit (.int 3))) w_law_1) (.cons (.ret (.call "_law_patient" .nil)) .nil))))
def e_law : Fn := ⟨1, 29, m_law⟩
theorem c_law : chkSs fs bs n_law (defScope (top 37)) m_law (defBody (top 37)) = true := by decide +kernel
theorem s_law : FnScope n_law ["script"] (defScope (top 37)) := ⟨by decide +kernel, by decide +kernel, by decide +kernel, by decide +kernel, by decide +kernel, by decide +kernel, by decide +kernel⟩
theorem d_law : DTxt fs bs "law" (top 37) n_law ["script"] e_law := ⟨s_law, rfl, rfl, by decide, c_law, fun kV doc pm an cdv ct us hl => match us, hl with | [_], _ => rfl⟩
def n_LongSender___init__ : List Str := ["self", "message"]
def m_LongSender___init__ : Ss := (.cons (.fput "LongSender" "_left" (.var 0) (.call "datas_of" (.cons (.var 1) .nil))) (.cons (.fput "LongSender" "_long" (.var 0) (.cmp .Gt (.bi "len" (.cons (.var 1) .nil)) (.glob "ALONE_BYTES"))) (.cons (.tfld "LongSender" (.var 0) ["_begun", "_may", "_gap"] (.tup (.cons (.lit (.bl false)) (.cons (.lit (.int 0)) (.cons (.lit (.int 0)) .nil))))) (.cons (.tfld "LongSender" (.var 0) ["_rest", "_ticks", "_waits"] (.tup (.cons (.lit (.int 0)) (.cons (.lit (.int 0)) (.cons (.lit (.int 0)) .nil))))) (.cons (.fput "LongSender" "_state" (.var 0) (.lit (.str "going"))) .nil)))))
def e_LongSender___init__ : Fn := ⟨2, 2, m_LongSender___init__⟩
theorem c_LongSender___init__ : chkSs fs bs n_LongSender___init__ (defScope (inCls (top 25) 0)) m_LongSender___init__ (defBody (inCls (top 25) 0)) = true := by decide +kernel
theorem s_LongSender___init__ : FnScope n_LongSender___init__ ["self", "message"] (defScope (inCls (top 25) 0)) := ⟨by decide +kernel, by decide +kernel, by decide +kernel, by decide +kernel, by decide +kernel, by decide +kernel, by decide +kernel⟩
theorem d_LongSender___init__ : MTxt fs bs "__init__" "LongSender.__init__" (inCls (top 25) 0) n_LongSender___init__ ["self", "message"] e_LongSender___init__ := ⟨s_LongSender___init__, rfl, rfl, by decide, c_LongSender___init__, fun kV doc pm an cdv ct us hl => match us, hl with | [_, _], _ => rfl⟩
@[simp] theorem mq_LongSender___init__ : mthQ "LongSender" "__init__" = "LongSender.__init__" := by decide +kernel
def n_LongSender_data : List Str := ["self"]
def m_LongSender_data : Ss := (.cons (.ife (.dis (.cons (.cmp .NotEq (.fld "LongSender" "_state" (.var 0)) (.lit (.str "going"))) (.cons (.cmp .Gt (.fld "LongSender" "_rest" (.var 0)) (.lit (.int 0))) .nil)))
  (.cons (.ret (.lit .non)) .nil)
  .nil) (.cons (.ife (.dis (.cons (.not (.fld "LongSender" "_begun" (.var 0))) (.cons (.cmp .NotEq (.fld "LongSender" "_may" (.var 0)) (.lit (.int 0))) .nil)))
  (.cons (.ret (.ix (.fld "LongSender" "_left" (.var 0)) (.lit (.int 0)))) .nil)
  .nil) (.cons (.ret (.lit .non)) .nil)))
def e_LongSender_data : Fn := ⟨1, 1, m_LongSender_data⟩
theorem c_LongSender_data : chkSs fs bs n_LongSender_data (defScope (inCls (top 25) 2)) m_LongSender_data (defBody (inCls (top 25) 2)) = true := by decide +kernel
theorem s_LongSender_data : FnScope n_LongSender_data ["self"] (defScope (inCls (top 25) 2)) := ⟨by decide +kernel, by decide +kernel, by decide +kernel, by decide +kernel, by decide +kernel, by decide +kernel, by decide +kernel⟩
theorem d_LongSender_data : MTxt fs bs "data" "LongSender.data" (inCls (top 25) 2) n_LongSender_data ["self"] e_LongSender_data := ⟨s_LongSender_data, rfl, rfl, by decide, c_LongSender_data, fun kV doc pm an cdv ct us hl => match us, hl with | [_], _ => rfl⟩
@[simp] theorem mq_LongSender_data : mthQ "LongSender" "data" = "LongSender.data" := by decide +kernel
def n_LongSender_hear : List Str := ["self", "data", "told", "waits"]
def m_LongSender_hear : Ss := (.cons (.set 2 (.call "read_data" (.cons (.var 1) .nil))) (.cons (.set 3 (.con (.cons (.fld "LongSender" "_begun" (.var 0)) (.cons (.cmp .Eq (.fld "LongSender" "_may" (.var 0)) (.lit (.int 0))) (.cons (.fld "LongSender" "_long" (.var 0)) .nil))))) (.cons (.ife (.dis (.cons (.cmp .NotEq (.fld "LongSender" "_state" (.var 0)) (.lit (.str "going"))) (.cons (.cmp .Is (.var 2) (.lit .non)) (.cons (.cmp .NotEq (.ix (.var 2) (.lit (.int 0))) (.lit (.str "flow"))) (.cons (.not (.var 3)) .nil)))))
  (.cons .ret0 .nil)
  .nil) (.cons (.fput "LongSender" "_ticks" (.var 0) (.lit (.int 0))) (.cons (.ife (.cmp .Eq (.ix (.var 2) (.lit (.int 1))) (.glob "TOO_MUCH"))
  (.cons (.fput "LongSender" "_state" (.var 0) (.lit (.str "refused"))) .nil)
  (.cons (.ife (.cmp .Eq (.ix (.var 2) (.lit (.int 1))) (.glob "WAIT"))
  (.cons (.faug "LongSender" "_waits" .Add (.var 0) (.lit (.int 1))) (.cons (.fput "LongSender" "_state" (.var 0) (.ife (.cmp .Gt (.fld "LongSender" "_waits" (.var 0)) (.glob "MOST_WAITS")) (.lit (.str "refused")) (.lit (.str "going")))) .nil))
  (.cons (.tfld "LongSender" (.var 0) ["_waits", "_gap", "_rest"] (.tup (.cons (.lit (.int 0)) (.cons (.ix (.var 2) (.lit (.int 3))) (.cons (.lit (.int 0)) .nil))))) (.cons (.fput "LongSender" "_may" (.var 0) (.ife (.cmp .Gt (.ix (.var 2) (.lit (.int 2))) (.lit (.int 0))) (.ix (.var 2) (.lit (.int 2))) (.neg (.lit (.int 1))))) .nil))) .nil)) .nil)))))
def e_LongSender_hear : Fn := ⟨2, 4, m_LongSender_hear⟩
theorem c_LongSender_hear : chkSs fs bs n_LongSender_hear (defScope (inCls (top 25) 4)) m_LongSender_hear (defBody (inCls (top 25) 4)) = true := by decide +kernel
theorem s_LongSender_hear : FnScope n_LongSender_hear ["self", "data"] (defScope (inCls (top 25) 4)) := ⟨by decide +kernel, by decide +kernel, by decide +kernel, by decide +kernel, by decide +kernel, by decide +kernel, by decide +kernel⟩
theorem d_LongSender_hear : MTxt fs bs "hear" "LongSender.hear" (inCls (top 25) 4) n_LongSender_hear ["self", "data"] e_LongSender_hear := ⟨s_LongSender_hear, rfl, rfl, by decide, c_LongSender_hear, fun kV doc pm an cdv ct us hl => match us, hl with | [_, _], _ => rfl⟩
@[simp] theorem mq_LongSender_hear : mthQ "LongSender" "hear" = "LongSender.hear" := by decide +kernel
def n_LongSender_sent : List Str := ["self"]
def m_LongSender_sent : Ss := (.cons (.ife (.cmp .Is (.mcl "LongSender" "data" (.var 0) .nil) (.lit .non))
  (.cons .ret0 .nil)
  .nil) (.cons (.fput "LongSender" "_left" (.var 0) (.sl (.fld "LongSender" "_left" (.var 0)) (.some (.lit (.int 1))) .none)) (.cons (.tfld "LongSender" (.var 0) ["_ticks", "_rest"] (.tup (.cons (.lit (.int 0)) (.cons (.ife (.fld "LongSender" "_begun" (.var 0)) (.fld "LongSender" "_gap" (.var 0)) (.lit (.int 0))) .nil)))) (.cons (.faug "LongSender" "_may" .Sub (.var 0) (.ife (.con (.cons (.fld "LongSender" "_begun" (.var 0)) (.cons (.cmp .Gt (.fld "LongSender" "_may" (.var 0)) (.lit (.int 0))) .nil))) (.lit (.int 1)) (.lit (.int 0)))) (.cons (.fput "LongSender" "_begun" (.var 0) (.lit (.bl true))) (.cons (.ife (.not (.fld "LongSender" "_left" (.var 0)))
  (.cons (.fput "LongSender" "_state" (.var 0) (.lit (.str "done"))) .nil)
  .nil) .nil))))))
def e_LongSender_sent : Fn := ⟨1, 1, m_LongSender_sent⟩
theorem c_LongSender_sent : chkSs fs bs n_LongSender_sent (defScope (inCls (top 25) 3)) m_LongSender_sent (defBody (inCls (top 25) 3)) = true := by decide +kernel
theorem s_LongSender_sent : FnScope n_LongSender_sent ["self"] (defScope (inCls (top 25) 3)) := ⟨by decide +kernel, by decide +kernel, by decide +kernel, by decide +kernel, by decide +kernel, by decide +kernel, by decide +kernel⟩
theorem d_LongSender_sent : MTxt fs bs "sent" "LongSender.sent" (inCls (top 25) 3) n_LongSender_sent ["self"] e_LongSender_sent := ⟨s_LongSender_sent, rfl, rfl, by decide, c_LongSender_sent, fun kV doc pm an cdv ct us hl => match us, hl with | [_], _ => rfl⟩
@[simp] theorem mq_LongSender_sent : mthQ "LongSender" "sent" = "LongSender.sent" := by decide +kernel
def n_LongSender_state : List Str := ["self"]
def m_LongSender_state : Ss := (.cons (.ret (.fld "LongSender" "_state" (.var 0))) .nil)
def e_LongSender_state : Fn := ⟨1, 1, m_LongSender_state⟩
theorem c_LongSender_state : chkSs fs bs n_LongSender_state (defScope (inCls (top 25) 1)) m_LongSender_state (defBody (inCls (top 25) 1)) = true := by decide +kernel
theorem s_LongSender_state : FnScope n_LongSender_state ["self"] (defScope (inCls (top 25) 1)) := ⟨by decide +kernel, by decide +kernel, by decide +kernel, by decide +kernel, by decide +kernel, by decide +kernel, by decide +kernel⟩
theorem d_LongSender_state : MTxt fs bs "state" "LongSender.state" (inCls (top 25) 1) n_LongSender_state ["self"] e_LongSender_state := ⟨s_LongSender_state, rfl, rfl, by decide, c_LongSender_state, fun kV doc pm an cdv ct us hl => match us, hl with | [_], _ => rfl⟩
@[simp] theorem mq_LongSender_state : mthQ "LongSender" "state" = "LongSender.state" := by decide +kernel
def n_LongSender_tick : List Str := ["self"]
def m_LongSender_tick : Ss := (.cons (.ife (.dis (.cons (.cmp .NotEq (.fld "LongSender" "_state" (.var 0)) (.lit (.str "going"))) (.cons (.not (.fld "LongSender" "_begun" (.var 0))) .nil)))
  (.cons .ret0 .nil)
  .nil) (.cons (.fput "LongSender" "_rest" (.var 0) (.bi "max" (.cons (.lit (.int 0)) (.cons (.bin .Sub (.fld "LongSender" "_rest" (.var 0)) (.lit (.int 1))) .nil)))) (.cons (.ife (.cmp .Eq (.fld "LongSender" "_may" (.var 0)) (.lit (.int 0)))
  (.cons (.faug "LongSender" "_ticks" .Add (.var 0) (.lit (.int 1))) (.cons (.ife (.cmp .Gt (.fld "LongSender" "_ticks" (.var 0)) (.glob "PATIENCE"))
  (.cons (.fput "LongSender" "_state" (.var 0) (.lit (.str "refused"))) .nil)
  .nil) .nil))
  .nil) .nil)))
def e_LongSender_tick : Fn := ⟨1, 1, m_LongSender_tick⟩
theorem c_LongSender_tick : chkSs fs bs n_LongSender_tick (defScope (inCls (top 25) 5)) m_LongSender_tick (defBody (inCls (top 25) 5)) = true := by decide +kernel
theorem s_LongSender_tick : FnScope n_LongSender_tick ["self"] (defScope (inCls (top 25) 5)) := ⟨by decide +kernel, by decide +kernel, by decide +kernel, by decide +kernel, by decide +kernel, by decide +kernel, by decide +kernel⟩
theorem d_LongSender_tick : MTxt fs bs "tick" "LongSender.tick" (inCls (top 25) 5) n_LongSender_tick ["self"] e_LongSender_tick := ⟨s_LongSender_tick, rfl, rfl, by decide, c_LongSender_tick, fun kV doc pm an cdv ct us hl => match us, hl with | [_], _ => rfl⟩
@[simp] theorem mq_LongSender_tick : mthQ "LongSender" "tick" = "LongSender.tick" := by decide +kernel
def n_LongTaker___init__ : List Str := ["self", "room", "block", "gap"]
def m_LongTaker___init__ : Ss := (.cons (.tfld "LongTaker" (.var 0) ["_room", "_block", "_gap"] (.tup (.cons (.var 1) (.cons (.var 2) (.cons (.var 3) .nil))))) (.cons (.tfld "LongTaker" (.var 0) ["_whole", "_refused"] (.tup (.cons (.onew .nil) (.cons (.lit (.int 0)) .nil)))) (.cons (.tfld "LongTaker" (.var 0) ["_size", "_got", "_number"] (.tup (.cons (.lit .non) (.cons (.tup .nil) (.cons (.lit (.int 0)) .nil))))) (.cons (.tfld "LongTaker" (.var 0) ["_last", "_count", "_ticks"] (.tup (.cons (.tup .nil) (.cons (.lit (.int 0)) (.cons (.lit (.int 0)) .nil))))) .nil))))
def e_LongTaker___init__ : Fn := ⟨4, 4, m_LongTaker___init__⟩
theorem c_LongTaker___init__ : chkSs fs bs n_LongTaker___init__ (defScope (inCls (top 26) 0)) m_LongTaker___init__ (defBody (inCls (top 26) 0)) = true := by decide +kernel
theorem s_LongTaker___init__ : FnScope n_LongTaker___init__ ["self", "room", "block", "gap"] (defScope (inCls (top 26) 0)) := ⟨by decide +kernel, by decide +kernel, by decide +kernel, by decide +kernel, by decide +kernel, by decide +kernel, by decide +kernel⟩
theorem d_LongTaker___init__ : MTxt fs bs "__init__" "LongTaker.__init__" (inCls (top 26) 0) n_LongTaker___init__ ["self", "room", "block", "gap"] e_LongTaker___init__ := ⟨s_LongTaker___init__, rfl, rfl, by decide, c_LongTaker___init__, fun kV doc pm an cdv ct us hl => match us, hl with | [_, _, _, _], _ => rfl⟩
@[simp] theorem mq_LongTaker___init__ : mthQ "LongTaker" "__init__" = "LongTaker.__init__" := by decide +kernel
def n_LongTaker__hear_next : List Str := ["self", "number", "part", "wanted"]
def m_LongTaker__hear_next : Ss := (.cons (.ife (.cmp .Is (.fld "LongTaker" "_size" (.var 0)) (.lit .non))
  (.cons (.ret (.lit .non)) .nil)
  .nil) (.cons (.ife (.con (.cons (.cmp .Eq (.var 1) (.bin .Mod (.fld "LongTaker" "_number" (.var 0)) (.lit (.int 16)))) (.cons (.cmp .Eq (.var 2) (.fld "LongTaker" "_last" (.var 0))) (.cons (.cmp .Gt (.fld "LongTaker" "_number" (.var 0)) (.lit (.int 0))) .nil))))
  (.cons (.ret (.ife (.con (.cons (.fld "LongTaker" "_block" (.var 0)) (.cons (.cmp .Eq (.fld "LongTaker" "_count" (.var 0)) (.lit (.int 0))) .nil))) (.call "flow_data" (.cons (.glob "GO_ON") (.cons (.fld "LongTaker" "_block" (.var 0)) (.cons (.fld "LongTaker" "_gap" (.var 0)) .nil)))) (.lit .non))) .nil)
  .nil) (.cons (.set 3 (.bi "min" (.cons (.lit (.int 7)) (.cons (.bin .Sub (.fld "LongTaker" "_size" (.var 0)) (.bi "len" (.cons (.fld "LongTaker" "_got" (.var 0)) .nil))) .nil)))) (.cons (.ife (.dis (.cons (.cmp .NotEq (.var 1) (.bin .Mod (.bin .Add (.fld "LongTaker" "_number" (.var 0)) (.lit (.int 1))) (.lit (.int 16)))) (.cons (.cmp .NotEq (.bi "len" (.cons (.var 2) .nil)) (.var 3)) .nil)))
  (.cons (.exp (.mcl "LongTaker" "_leave" (.var 0) .nil)) (.cons (.ret (.lit .non)) .nil))
  .nil) (.cons (.tfld "LongTaker" (.var 0) ["_got", "_last"] (.tup (.cons (.bin .Add (.fld "LongTaker" "_got" (.var 0)) (.var 2)) (.cons (.var 2) .nil)))) (.cons (.tfld "LongTaker" (.var 0) ["_number", "_count", "_ticks"] (.tup (.cons (.bin .Add (.fld "LongTaker" "_number" (.var 0)) (.lit (.int 1))) (.cons (.bin .Add (.fld "LongTaker" "_count" (.var 0)) (.lit (.int 1))) (.cons (.lit (.int 0)) .nil))))) (.cons (.ife (.cmp .Eq (.bi "len" (.cons (.fld "LongTaker" "_got" (.var 0)) .nil)) (.fld "LongTaker" "_size" (.var 0)))
  (.cons (.exp (.om "append" (.fld "LongTaker" "_whole" (.var 0)) (.fld "LongTaker" "_got" (.var 0)))) (.cons (.fput "LongTaker" "_size" (.var 0) (.lit .non)) (.cons (.ret (.lit .non)) .nil)))
  .nil) (.cons (.ife (.cmp .Eq (.fld "LongTaker" "_count" (.var 0)) (.fld "LongTaker" "_block" (.var 0)))
  (.cons (.fput "LongTaker" "_count" (.var 0) (.lit (.int 0))) (.cons (.ret (.call "flow_data" (.cons (.glob "GO_ON") (.cons (.fld "LongTaker" "_block" (.var 0)) (.cons (.fld "LongTaker" "_gap" (.var 0)) .nil))))) .nil))
  .nil) (.cons (.ret (.lit .non)) .nil)))))))))
def e_LongTaker__hear_next : Fn := ⟨3, 4, m_LongTaker__hear_next⟩
theorem c_LongTaker__hear_next : chkSs fs bs n_LongTaker__hear_next (defScope (inCls (top 26) 5)) m_LongTaker__hear_next (defBody (inCls (top 26) 5)) = true := by decide +kernel
theorem s_LongTaker__hear_next : FnScope n_LongTaker__hear_next ["self", "number", "part"] (defScope (inCls (top 26) 5)) := ⟨by decide +kernel, by decide +kernel, by decide +kernel, by decide +kernel, by decide +kernel, by decide +kernel, by decide +kernel⟩
theorem d_LongTaker__hear_next : MTxt fs bs "_hear_next" "LongTaker._hear_next" (inCls (top 26) 5) n_LongTaker__hear_next ["self", "number", "part"] e_LongTaker__hear_next := ⟨s_LongTaker__hear_next, rfl, rfl, by decide, c_LongTaker__hear_next, fun kV doc pm an cdv ct us hl => match us, hl with | [_, _, _], _ => rfl⟩
@[simp] theorem mq_LongTaker__hear_next : mthQ "LongTaker" "_hear_next" = "LongTaker._hear_next" := by decide +kernel
def n_LongTaker__leave : List Str := ["self"]
def m_LongTaker__leave : Ss := (.cons (.faug "LongTaker" "_refused" .Add (.var 0) (.ife (.cmp .IsNot (.fld "LongTaker" "_size" (.var 0)) (.lit .non)) (.lit (.int 1)) (.lit (.int 0)))) (.cons (.fput "LongTaker" "_size" (.var 0) (.lit .non)) .nil))
def e_LongTaker__leave : Fn := ⟨1, 1, m_LongTaker__leave⟩
theorem c_LongTaker__leave : chkSs fs bs n_LongTaker__leave (defScope (inCls (top 26) 3)) m_LongTaker__leave (defBody (inCls (top 26) 3)) = true := by decide +kernel
theorem s_LongTaker__leave : FnScope n_LongTaker__leave ["self"] (defScope (inCls (top 26) 3)) := ⟨by decide +kernel, by decide +kernel, by decide +kernel, by decide +kernel, by decide +kernel, by decide +kernel, by decide +kernel⟩
theorem d_LongTaker__leave : MTxt fs bs "_leave" "LongTaker._leave" (inCls (top 26) 3) n_LongTaker__leave ["self"] e_LongTaker__leave := ⟨s_LongTaker__leave, rfl, rfl, by decide, c_LongTaker__leave, fun kV doc pm an cdv ct us hl => match us, hl with | [_], _ => rfl⟩
@[simp] theorem mq_LongTaker__leave : mthQ "LongTaker" "_leave" = "LongTaker._leave" := by decide +kernel
def n_LongTaker_hear : List Str := ["self", "data", "told"]
def m_LongTaker_hear : Ss := (.cons (.set 2 (.call "read_data" (.cons (.var 1) .nil))) (.cons (.ife (.dis (.cons (.cmp .Is (.var 2) (.lit .non)) (.cons (.cmp .Eq (.ix (.var 2) (.lit (.int 0))) (.lit (.str "flow"))) .nil)))
  (.cons (.ret (.lit .non)) .nil)
  .nil) (.cons (.ife (.cmp .Eq (.ix (.var 2) (.lit (.int 0))) (.lit (.str "next")))
  (.cons (.ret (.mcl "LongTaker" "_hear_next" (.var 0) (.cons (.ix (.var 2) (.lit (.int 1))) (.cons (.ix (.var 2) (.lit (.int 2))) .nil)))) .nil)
  .nil) (.cons (.ife (.con (.cons (.cmp .Eq (.ix (.var 2) (.lit (.int 0))) (.lit (.str "first"))) (.cons (.cmp .Eq (.tup (.cons (.fld "LongTaker" "_size" (.var 0)) (.cons (.fld "LongTaker" "_got" (.var 0)) (.cons (.fld "LongTaker" "_number" (.var 0)) .nil)))) (.tup (.cons (.ix (.var 2) (.lit (.int 1))) (.cons (.ix (.var 2) (.lit (.int 2))) (.cons (.lit (.int 0)) .nil))))) .nil)))
  (.cons (.ret (.call "flow_data" (.cons (.glob "GO_ON") (.cons (.fld "LongTaker" "_block" (.var 0)) (.cons (.fld "LongTaker" "_gap" (.var 0)) .nil))))) .nil)
  .nil) (.cons (.exp (.mcl "LongTaker" "_leave" (.var 0) .nil)) (.cons (.ife (.cmp .Eq (.ix (.var 2) (.lit (.int 0))) (.lit (.str "alone")))
  (.cons (.exp (.om "append" (.fld "LongTaker" "_whole" (.var 0)) (.ix (.var 2) (.lit (.int 1))))) (.cons (.ret (.lit .non)) .nil))
  .nil) (.cons (.ife (.cmp .Gt (.ix (.var 2) (.lit (.int 1))) (.fld "LongTaker" "_room" (.var 0)))
  (.cons (.faug "LongTaker" "_refused" .Add (.var 0) (.lit (.int 1))) (.cons (.ret (.call "flow_data" (.cons (.glob "TOO_MUCH") (.cons (.lit (.int 0)) (.cons (.lit (.int 0)) .nil))))) .nil))
  .nil) (.cons (.tfld "LongTaker" (.var 0) ["_size", "_got", "_number"] (.tup (.cons (.ix (.var 2) (.lit (.int 1))) (.cons (.ix (.var 2) (.lit (.int 2))) (.cons (.lit (.int 0)) .nil))))) (.cons (.tfld "LongTaker" (.var 0) ["_last", "_count", "_ticks"] (.tup (.cons (.ix (.var 2) (.lit (.int 2))) (.cons (.lit (.int 0)) (.cons (.lit (.int 0)) .nil))))) (.cons (.ret (.call "flow_data" (.cons (.glob "GO_ON") (.cons (.fld "LongTaker" "_block" (.var 0)) (.cons (.fld "LongTaker" "_gap" (.var 0)) .nil))))) .nil))))))))))
def e_LongTaker_hear : Fn := ⟨2, 3, m_LongTaker_hear⟩
theorem c_LongTaker_hear : chkSs fs bs n_LongTaker_hear (defScope (inCls (top 26) 4)) m_LongTaker_hear (defBody (inCls (top 26) 4)) = true := by decide +kernel
theorem s_LongTaker_hear : FnScope n_LongTaker_hear ["self", "data"] (defScope (inCls (top 26) 4)) := ⟨by decide +kernel, by decide +kernel, by decide +kernel, by decide +kernel, by decide +kernel, by decide +kernel, by decide +kernel⟩
theorem d_LongTaker_hear : MTxt fs bs "hear" "LongTaker.hear" (inCls (top 26) 4) n_LongTaker_hear ["self", "data"] e_LongTaker_hear := ⟨s_LongTaker_hear, rfl, rfl, by decide, c_LongTaker_hear, fun kV doc pm an cdv ct us hl => match us, hl with | [_, _], _ => rfl⟩
@[simp] theorem mq_LongTaker_hear : mthQ "LongTaker" "hear" = "LongTaker.hear" := by decide +kernel
def n_LongTaker_messages : List Str := ["self"]
def m_LongTaker_messages : Ss := (.cons (.ret (.otup (.fld "LongTaker" "_whole" (.var 0)))) .nil)
def e_LongTaker_messages : Fn := ⟨1, 1, m_LongTaker_messages⟩
theorem c_LongTaker_messages : chkSs fs bs n_LongTaker_messages (defScope (inCls (top 26) 1)) m_LongTaker_messages (defBody (inCls (top 26) 1)) = true := by decide +kernel
theorem s_LongTaker_messages : FnScope n_LongTaker_messages ["self"] (defScope (inCls (top 26) 1)) := ⟨by decide +kernel, by decide +kernel, by decide +kernel, by decide +kernel, by decide +kernel, by decide +kernel, by decide +kernel⟩
theorem d_LongTaker_messages : MTxt fs bs "messages" "LongTaker.messages" (inCls (top 26) 1) n_LongTaker_messages ["self"] e_LongTaker_messages := ⟨s_LongTaker_messages, rfl, rfl, by decide, c_LongTaker_messages, fun kV doc pm an cdv ct us hl => match us, hl with | [_], _ => rfl⟩
@[simp] theorem mq_LongTaker_messages : mthQ "LongTaker" "messages" = "LongTaker.messages" := by decide +kernel
def n_LongTaker_refused : List Str := ["self"]
def m_LongTaker_refused : Ss := (.cons (.ret (.fld "LongTaker" "_refused" (.var 0))) .nil)
def e_LongTaker_refused : Fn := ⟨1, 1, m_LongTaker_refused⟩
theorem c_LongTaker_refused : chkSs fs bs n_LongTaker_refused (defScope (inCls (top 26) 2)) m_LongTaker_refused (defBody (inCls (top 26) 2)) = true := by decide +kernel
theorem s_LongTaker_refused : FnScope n_LongTaker_refused ["self"] (defScope (inCls (top 26) 2)) := ⟨by decide +kernel, by decide +kernel, by decide +kernel, by decide +kernel, by decide +kernel, by decide +kernel, by decide +kernel⟩
theorem d_LongTaker_refused : MTxt fs bs "refused" "LongTaker.refused" (inCls (top 26) 2) n_LongTaker_refused ["self"] e_LongTaker_refused := ⟨s_LongTaker_refused, rfl, rfl, by decide, c_LongTaker_refused, fun kV doc pm an cdv ct us hl => match us, hl with | [_], _ => rfl⟩
@[simp] theorem mq_LongTaker_refused : mthQ "LongTaker" "refused" = "LongTaker.refused" := by decide +kernel
def n_LongTaker_tick : List Str := ["self"]
def m_LongTaker_tick : Ss := (.cons (.faug "LongTaker" "_ticks" .Add (.var 0) (.lit (.int 1))) (.cons (.ife (.con (.cons (.cmp .IsNot (.fld "LongTaker" "_size" (.var 0)) (.lit .non)) (.cons (.cmp .Gt (.fld "LongTaker" "_ticks" (.var 0)) (.bin .Add (.glob "PATIENCE") (.fld "LongTaker" "_gap" (.var 0)))) .nil)))
  (.cons (.exp (.mcl "LongTaker" "_leave" (.var 0) .nil)) .nil)
  .nil) .nil))
def e_LongTaker_tick : Fn := ⟨1, 1, m_LongTaker_tick⟩
theorem c_LongTaker_tick : chkSs fs bs n_LongTaker_tick (defScope (inCls (top 26) 6)) m_LongTaker_tick (defBody (inCls (top 26) 6)) = true := by decide +kernel
theorem s_LongTaker_tick : FnScope n_LongTaker_tick ["self"] (defScope (inCls (top 26) 6)) := ⟨by decide +kernel, by decide +kernel, by decide +kernel, by decide +kernel, by decide +kernel, by decide +kernel, by decide +kernel⟩
theorem d_LongTaker_tick : MTxt fs bs "tick" "LongTaker.tick" (inCls (top 26) 6) n_LongTaker_tick ["self"] e_LongTaker_tick := ⟨s_LongTaker_tick, rfl, rfl, by decide, c_LongTaker_tick, fun kV doc pm an cdv ct us hl => match us, hl with | [_], _ => rfl⟩
@[simp] theorem mq_LongTaker_tick : mthQ "LongTaker" "tick" = "LongTaker.tick" := by decide +kernel
def msL : List (Str × Fn) := [(("LongSender.__init__" : Str), e_LongSender___init__), (("LongSender.data" : Str), e_LongSender_data), (("LongSender.hear" : Str), e_LongSender_hear), (("LongSender.sent" : Str), e_LongSender_sent), (("LongSender.state" : Str), e_LongSender_state), (("LongSender.tick" : Str), e_LongSender_tick), (("LongTaker.__init__" : Str), e_LongTaker___init__), (("LongTaker._hear_next" : Str), e_LongTaker__hear_next), (("LongTaker._leave" : Str), e_LongTaker__leave), (("LongTaker.hear" : Str), e_LongTaker_hear), (("LongTaker.messages" : Str), e_LongTaker_messages), (("LongTaker.refused" : Str), e_LongTaker_refused), (("LongTaker.tick" : Str), e_LongTaker_tick)]
def fnL : List (Str × Fn) := [(("alone_data" : Str), e_alone_data), (("first_data" : Str), e_first_data), (("next_data" : Str), e_next_data), (("flow_data" : Str), e_flow_data), (("datas_of" : Str), e_datas_of), (("read_alone" : Str), e_read_alone), (("read_first" : Str), e_read_first), (("read_data" : Str), e_read_data), (("frames_needed" : Str), e_frames_needed), (("flows_needed" : Str), e_flows_needed), (("ticks_needed" : Str), e_ticks_needed), (("carried" : Str), e_carried), (("_law_box" : Str), e__law_box), (("_law_load" : Str), e__law_load), (("_law_draw" : Str), e__law_draw), (("_law_same" : Str), e__law_same), (("_law_message" : Str), e__law_message), (("_law_exchange" : Str), e__law_exchange), (("_law_given" : Str), e__law_given), (("_law_patient" : Str), e__law_patient), (("law" : Str), e_law)]
def glL : List (Str × D) := [("ALONE", (.int 0)), ("FIRST", (.int 16)), ("NEXT", (.int 32)), ("FLOW", (.int 48)), ("GO_ON", (.int 0)), ("WAIT", (.int 1)), ("TOO_MUCH", (.int 2)), ("ALONE_BYTES", (.int 7)), ("FIRST_BYTES", (.int 6)), ("NEXT_BYTES", (.int 7)), ("PATIENCE", (.int 20)), ("MOST_WAITS", (.int 4))]
def Q : Pg := ⟨fnL, msL, glL⟩
def Gl (x : Str) : Option D := Q.gl.lookup x
@[irreducible] def Fc (n : Nat) (f : Str) : List D → Obs → R D := Q.call lawM n f
theorem Fc_eq (n : Nat) : Fc n = Q.call lawM n := by funext f; unfold Fc; rfl
theorem fn_nodup : (fnL.map (·.1)).Nodup := by decide +kernel
theorem ms_nodup : (msL.map (·.1)).Nodup := by decide +kernel
theorem z_LongSender___init__ : Q.fn.lookup ("LongSender.__init__" : Str) = none := Option.isNone_iff_eq_none.mp (by decide +kernel)
theorem r_LongSender___init__ (n : Nat) (a0 a1 : D) (o : Obs) : Fc (n + 1) "LongSender.__init__" [a0, a1] o = endR (denSs (Fc n) Gl lawM m_LongSender___init__ [.v a0, .v a1] o) := by
  rw [Fc_eq, Fc_eq]; exact call_succM (Q := Q) (i := 0) z_LongSender___init__ ms_nodup rfl [a0, a1] o rfl
theorem z_LongSender_data : Q.fn.lookup ("LongSender.data" : Str) = none := Option.isNone_iff_eq_none.mp (by decide +kernel)
theorem r_LongSender_data (n : Nat) (a0 : D) (o : Obs) : Fc (n + 1) "LongSender.data" [a0] o = endR (denSs (Fc n) Gl lawM m_LongSender_data [.v a0] o) := by
  rw [Fc_eq, Fc_eq]; exact call_succM (Q := Q) (i := 1) z_LongSender_data ms_nodup rfl [a0] o rfl
theorem z_LongSender_hear : Q.fn.lookup ("LongSender.hear" : Str) = none := Option.isNone_iff_eq_none.mp (by decide +kernel)
theorem r_LongSender_hear (n : Nat) (a0 a1 : D) (o : Obs) : Fc (n + 1) "LongSender.hear" [a0, a1] o = endR (denSs (Fc n) Gl lawM m_LongSender_hear [.v a0, .v a1, .un, .un] o) := by
  rw [Fc_eq, Fc_eq]; exact call_succM (Q := Q) (i := 2) z_LongSender_hear ms_nodup rfl [a0, a1] o rfl
theorem z_LongSender_sent : Q.fn.lookup ("LongSender.sent" : Str) = none := Option.isNone_iff_eq_none.mp (by decide +kernel)
theorem r_LongSender_sent (n : Nat) (a0 : D) (o : Obs) : Fc (n + 1) "LongSender.sent" [a0] o = endR (denSs (Fc n) Gl lawM m_LongSender_sent [.v a0] o) := by
  rw [Fc_eq, Fc_eq]; exact call_succM (Q := Q) (i := 3) z_LongSender_sent ms_nodup rfl [a0] o rfl
theorem z_LongSender_state : Q.fn.lookup ("LongSender.state" : Str) = none := Option.isNone_iff_eq_none.mp (by decide +kernel)
theorem r_LongSender_state (n : Nat) (a0 : D) (o : Obs) : Fc (n + 1) "LongSender.state" [a0] o = endR (denSs (Fc n) Gl lawM m_LongSender_state [.v a0] o) := by
  rw [Fc_eq, Fc_eq]; exact call_succM (Q := Q) (i := 4) z_LongSender_state ms_nodup rfl [a0] o rfl
theorem z_LongSender_tick : Q.fn.lookup ("LongSender.tick" : Str) = none := Option.isNone_iff_eq_none.mp (by decide +kernel)
theorem r_LongSender_tick (n : Nat) (a0 : D) (o : Obs) : Fc (n + 1) "LongSender.tick" [a0] o = endR (denSs (Fc n) Gl lawM m_LongSender_tick [.v a0] o) := by
  rw [Fc_eq, Fc_eq]; exact call_succM (Q := Q) (i := 5) z_LongSender_tick ms_nodup rfl [a0] o rfl
theorem z_LongTaker___init__ : Q.fn.lookup ("LongTaker.__init__" : Str) = none := Option.isNone_iff_eq_none.mp (by decide +kernel)
theorem r_LongTaker___init__ (n : Nat) (a0 a1 a2 a3 : D) (o : Obs) : Fc (n + 1) "LongTaker.__init__" [a0, a1, a2, a3] o = endR (denSs (Fc n) Gl lawM m_LongTaker___init__ [.v a0, .v a1, .v a2, .v a3] o) := by
  rw [Fc_eq, Fc_eq]; exact call_succM (Q := Q) (i := 6) z_LongTaker___init__ ms_nodup rfl [a0, a1, a2, a3] o rfl
theorem z_LongTaker__hear_next : Q.fn.lookup ("LongTaker._hear_next" : Str) = none := Option.isNone_iff_eq_none.mp (by decide +kernel)
theorem r_LongTaker__hear_next (n : Nat) (a0 a1 a2 : D) (o : Obs) : Fc (n + 1) "LongTaker._hear_next" [a0, a1, a2] o = endR (denSs (Fc n) Gl lawM m_LongTaker__hear_next [.v a0, .v a1, .v a2, .un] o) := by
  rw [Fc_eq, Fc_eq]; exact call_succM (Q := Q) (i := 7) z_LongTaker__hear_next ms_nodup rfl [a0, a1, a2] o rfl
theorem z_LongTaker__leave : Q.fn.lookup ("LongTaker._leave" : Str) = none := Option.isNone_iff_eq_none.mp (by decide +kernel)
theorem r_LongTaker__leave (n : Nat) (a0 : D) (o : Obs) : Fc (n + 1) "LongTaker._leave" [a0] o = endR (denSs (Fc n) Gl lawM m_LongTaker__leave [.v a0] o) := by
  rw [Fc_eq, Fc_eq]; exact call_succM (Q := Q) (i := 8) z_LongTaker__leave ms_nodup rfl [a0] o rfl
theorem z_LongTaker_hear : Q.fn.lookup ("LongTaker.hear" : Str) = none := Option.isNone_iff_eq_none.mp (by decide +kernel)
theorem r_LongTaker_hear (n : Nat) (a0 a1 : D) (o : Obs) : Fc (n + 1) "LongTaker.hear" [a0, a1] o = endR (denSs (Fc n) Gl lawM m_LongTaker_hear [.v a0, .v a1, .un] o) := by
  rw [Fc_eq, Fc_eq]; exact call_succM (Q := Q) (i := 9) z_LongTaker_hear ms_nodup rfl [a0, a1] o rfl
theorem z_LongTaker_messages : Q.fn.lookup ("LongTaker.messages" : Str) = none := Option.isNone_iff_eq_none.mp (by decide +kernel)
theorem r_LongTaker_messages (n : Nat) (a0 : D) (o : Obs) : Fc (n + 1) "LongTaker.messages" [a0] o = endR (denSs (Fc n) Gl lawM m_LongTaker_messages [.v a0] o) := by
  rw [Fc_eq, Fc_eq]; exact call_succM (Q := Q) (i := 10) z_LongTaker_messages ms_nodup rfl [a0] o rfl
theorem z_LongTaker_refused : Q.fn.lookup ("LongTaker.refused" : Str) = none := Option.isNone_iff_eq_none.mp (by decide +kernel)
theorem r_LongTaker_refused (n : Nat) (a0 : D) (o : Obs) : Fc (n + 1) "LongTaker.refused" [a0] o = endR (denSs (Fc n) Gl lawM m_LongTaker_refused [.v a0] o) := by
  rw [Fc_eq, Fc_eq]; exact call_succM (Q := Q) (i := 11) z_LongTaker_refused ms_nodup rfl [a0] o rfl
theorem z_LongTaker_tick : Q.fn.lookup ("LongTaker.tick" : Str) = none := Option.isNone_iff_eq_none.mp (by decide +kernel)
theorem r_LongTaker_tick (n : Nat) (a0 : D) (o : Obs) : Fc (n + 1) "LongTaker.tick" [a0] o = endR (denSs (Fc n) Gl lawM m_LongTaker_tick [.v a0] o) := by
  rw [Fc_eq, Fc_eq]; exact call_succM (Q := Q) (i := 12) z_LongTaker_tick ms_nodup rfl [a0] o rfl
theorem gl_nodup : (glL.map (·.1)).Nodup := by decide +kernel
@[simp] theorem gl_ALONE : Gl "ALONE" = some (.int 0) := lookup_at (i := 0) gl_nodup rfl
@[simp] theorem gl_FIRST : Gl "FIRST" = some (.int 16) := lookup_at (i := 1) gl_nodup rfl
@[simp] theorem gl_NEXT : Gl "NEXT" = some (.int 32) := lookup_at (i := 2) gl_nodup rfl
@[simp] theorem gl_FLOW : Gl "FLOW" = some (.int 48) := lookup_at (i := 3) gl_nodup rfl
@[simp] theorem gl_GO_ON : Gl "GO_ON" = some (.int 0) := lookup_at (i := 4) gl_nodup rfl
@[simp] theorem gl_WAIT : Gl "WAIT" = some (.int 1) := lookup_at (i := 5) gl_nodup rfl
@[simp] theorem gl_TOO_MUCH : Gl "TOO_MUCH" = some (.int 2) := lookup_at (i := 6) gl_nodup rfl
@[simp] theorem gl_ALONE_BYTES : Gl "ALONE_BYTES" = some (.int 7) := lookup_at (i := 7) gl_nodup rfl
@[simp] theorem gl_FIRST_BYTES : Gl "FIRST_BYTES" = some (.int 6) := lookup_at (i := 8) gl_nodup rfl
@[simp] theorem gl_NEXT_BYTES : Gl "NEXT_BYTES" = some (.int 7) := lookup_at (i := 9) gl_nodup rfl
@[simp] theorem gl_PATIENCE : Gl "PATIENCE" = some (.int 20) := lookup_at (i := 10) gl_nodup rfl
@[simp] theorem gl_MOST_WAITS : Gl "MOST_WAITS" = some (.int 4) := lookup_at (i := 11) gl_nodup rfl
theorem r_alone_data (n : Nat) (a0 : D) (o : Obs) : Fc (n + 1) "alone_data" [a0] o = endR (denSs (Fc n) Gl lawM m_alone_data [.v a0] o) := by
  rw [Fc_eq, Fc_eq]; exact call_succ (Q := Q) (i := 0) fn_nodup rfl [a0] o rfl
theorem r_first_data (n : Nat) (a0 : D) (o : Obs) : Fc (n + 1) "first_data" [a0] o = endR (denSs (Fc n) Gl lawM m_first_data [.v a0] o) := by
  rw [Fc_eq, Fc_eq]; exact call_succ (Q := Q) (i := 1) fn_nodup rfl [a0] o rfl
theorem r_next_data (n : Nat) (a0 a1 : D) (o : Obs) : Fc (n + 1) "next_data" [a0, a1] o = endR (denSs (Fc n) Gl lawM m_next_data [.v a0, .v a1] o) := by
  rw [Fc_eq, Fc_eq]; exact call_succ (Q := Q) (i := 2) fn_nodup rfl [a0, a1] o rfl
theorem r_flow_data (n : Nat) (a0 a1 a2 : D) (o : Obs) : Fc (n + 1) "flow_data" [a0, a1, a2] o = endR (denSs (Fc n) Gl lawM m_flow_data [.v a0, .v a1, .v a2] o) := by
  rw [Fc_eq, Fc_eq]; exact call_succ (Q := Q) (i := 3) fn_nodup rfl [a0, a1, a2] o rfl
theorem r_datas_of (n : Nat) (a0 : D) (o : Obs) : Fc (n + 1) "datas_of" [a0] o = endR (denSs (Fc n) Gl lawM m_datas_of [.v a0, .un, .un, .un] o) := by
  rw [Fc_eq, Fc_eq]; exact call_succ (Q := Q) (i := 4) fn_nodup rfl [a0] o rfl
theorem r_read_alone (n : Nat) (a0 : D) (o : Obs) : Fc (n + 1) "read_alone" [a0] o = endR (denSs (Fc n) Gl lawM m_read_alone [.v a0, .un] o) := by
  rw [Fc_eq, Fc_eq]; exact call_succ (Q := Q) (i := 5) fn_nodup rfl [a0] o rfl
theorem r_read_first (n : Nat) (a0 : D) (o : Obs) : Fc (n + 1) "read_first" [a0] o = endR (denSs (Fc n) Gl lawM m_read_first [.v a0, .un] o) := by
  rw [Fc_eq, Fc_eq]; exact call_succ (Q := Q) (i := 6) fn_nodup rfl [a0] o rfl
theorem r_read_data (n : Nat) (a0 : D) (o : Obs) : Fc (n + 1) "read_data" [a0] o = endR (denSs (Fc n) Gl lawM m_read_data [.v a0] o) := by
  rw [Fc_eq, Fc_eq]; exact call_succ (Q := Q) (i := 7) fn_nodup rfl [a0] o rfl
theorem r_frames_needed (n : Nat) (a0 : D) (o : Obs) : Fc (n + 1) "frames_needed" [a0] o = endR (denSs (Fc n) Gl lawM m_frames_needed [.v a0] o) := by
  rw [Fc_eq, Fc_eq]; exact call_succ (Q := Q) (i := 8) fn_nodup rfl [a0] o rfl
theorem r_flows_needed (n : Nat) (a0 a1 : D) (o : Obs) : Fc (n + 1) "flows_needed" [a0, a1] o = endR (denSs (Fc n) Gl lawM m_flows_needed [.v a0, .v a1, .un] o) := by
  rw [Fc_eq, Fc_eq]; exact call_succ (Q := Q) (i := 9) fn_nodup rfl [a0, a1] o rfl
theorem r_ticks_needed (n : Nat) (a0 a1 a2 : D) (o : Obs) : Fc (n + 1) "ticks_needed" [a0, a1, a2] o = endR (denSs (Fc n) Gl lawM m_ticks_needed [.v a0, .v a1, .v a2] o) := by
  rw [Fc_eq, Fc_eq]; exact call_succ (Q := Q) (i := 10) fn_nodup rfl [a0, a1, a2] o rfl
theorem r_carried (n : Nat) (a0 a1 a2 a3 a4 : D) (o : Obs) : Fc (n + 1) "carried" [a0, a1, a2, a3, a4] o = endR (denSs (Fc n) Gl lawM m_carried [.v a0, .v a1, .v a2, .v a3, .v a4, .un, .un, .un, .un, .un, .un] o) := by
  rw [Fc_eq, Fc_eq]; exact call_succ (Q := Q) (i := 11) fn_nodup rfl [a0, a1, a2, a3, a4] o rfl
theorem r__law_box (n : Nat) (a0 : D) (o : Obs) : Fc (n + 1) "_law_box" [a0] o = endR (denSs (Fc n) Gl lawM m__law_box [.v a0] o) := by
  rw [Fc_eq, Fc_eq]; exact call_succ (Q := Q) (i := 12) fn_nodup rfl [a0] o rfl
theorem r__law_load (n : Nat) (a0 : D) (o : Obs) : Fc (n + 1) "_law_load" [a0] o = endR (denSs (Fc n) Gl lawM m__law_load [.v a0, .un, .un, .un, .un, .un] o) := by
  rw [Fc_eq, Fc_eq]; exact call_succ (Q := Q) (i := 13) fn_nodup rfl [a0] o rfl
theorem r__law_draw (n : Nat) (a0 a1 : D) (o : Obs) : Fc (n + 1) "_law_draw" [a0, a1] o = endR (denSs (Fc n) Gl lawM m__law_draw [.v a0, .v a1, .un] o) := by
  rw [Fc_eq, Fc_eq]; exact call_succ (Q := Q) (i := 14) fn_nodup rfl [a0, a1] o rfl
theorem r__law_same (n : Nat) (a0 a1 : D) (o : Obs) : Fc (n + 1) "_law_same" [a0, a1] o = endR (denSs (Fc n) Gl lawM m__law_same [.v a0, .v a1, .un] o) := by
  rw [Fc_eq, Fc_eq]; exact call_succ (Q := Q) (i := 15) fn_nodup rfl [a0, a1] o rfl
theorem r__law_message (n : Nat) (a0 a1 : D) (o : Obs) : Fc (n + 1) "_law_message" [a0, a1] o = endR (denSs (Fc n) Gl lawM m__law_message [.v a0, .v a1, .un] o) := by
  rw [Fc_eq, Fc_eq]; exact call_succ (Q := Q) (i := 16) fn_nodup rfl [a0, a1] o rfl
theorem r__law_exchange (n : Nat) (a0 a1 a2 : D) (o : Obs) : Fc (n + 1) "_law_exchange" [a0, a1, a2] o = endR (denSs (Fc n) Gl lawM m__law_exchange [.v a0, .v a1, .v a2, .un, .un, .un] o) := by
  rw [Fc_eq, Fc_eq]; exact call_succ (Q := Q) (i := 17) fn_nodup rfl [a0, a1, a2] o rfl
theorem r__law_given (n : Nat) (a0 a1 a2 : D) (o : Obs) : Fc (n + 1) "_law_given" [a0, a1, a2] o = endR (denSs (Fc n) Gl lawM m__law_given [.v a0, .v a1, .v a2, .un, .un, .un, .un] o) := by
  rw [Fc_eq, Fc_eq]; exact call_succ (Q := Q) (i := 18) fn_nodup rfl [a0, a1, a2] o rfl
theorem r__law_patient (n : Nat) (o : Obs) : Fc (n + 1) "_law_patient" [] o = endR (denSs (Fc n) Gl lawM m__law_patient [.un, .un, .un, .un, .un, .un] o) := by
  rw [Fc_eq, Fc_eq]; exact call_succ (Q := Q) (i := 19) fn_nodup rfl [] o rfl
theorem r_law (n : Nat) (a0 : D) (o : Obs) : Fc (n + 1) "law" [a0] o = endR (denSs (Fc n) Gl lawM m_law [.v a0, .un, .un, .un, .un, .un, .un, .un, .un, .un, .un, .un, .un, .un, .un, .un, .un, .un, .un, .un, .un, .un, .un, .un, .un, .un, .un, .un, .un] o) := by
  rw [Fc_eq, Fc_eq]; exact call_succ (Q := Q) (i := 20) fn_nodup rfl [a0] o rfl
def cs : List Str := []
def cds : List Cd := [.m "LongSender" "data", .m "LongSender" "hear", .m "LongSender" "sent", .m "LongSender" "state", .m "LongSender" "tick", .m "LongTaker" "_hear_next", .m "LongTaker" "_leave", .m "LongTaker" "hear", .m "LongTaker" "messages", .m "LongTaker" "refused", .m "LongTaker" "tick", .k "LongSender", .k "LongTaker", .f "LongSender" "_begun", .f "LongSender" "_gap", .f "LongSender" "_left", .f "LongSender" "_long", .f "LongSender" "_may", .f "LongSender" "_rest", .f "LongSender" "_state", .f "LongSender" "_ticks", .f "LongSender" "_waits", .f "LongTaker" "_block", .f "LongTaker" "_count", .f "LongTaker" "_gap", .f "LongTaker" "_got", .f "LongTaker" "_last", .f "LongTaker" "_number", .f "LongTaker" "_refused", .f "LongTaker" "_room", .f "LongTaker" "_size", .f "LongTaker" "_ticks", .f "LongTaker" "_whole"]
theorem ready_mk {PP : Program} {K : PySem.W.Frag} {h : Heap} {mg : Str → Option Value} (X : K.In h) (G : h.Ns mainGlobals mg) (d0 : Known K "alone_data" (top 11)) (d1 : Known K "first_data" (top 12)) (d2 : Known K "next_data" (top 13)) (d3 : Known K "flow_data" (top 14)) (d4 : Known K "datas_of" (top 15)) (d5 : Known K "read_alone" (top 16)) (d6 : Known K "read_first" (top 17)) (d7 : Known K "read_data" (top 18)) (d8 : Known K "frames_needed" (top 19)) (d9 : Known K "flows_needed" (top 20)) (d10 : Known K "ticks_needed" (top 21)) (d11 : Known K "carried" (top 27)) (d12 : Known K "_law_box" (top 29)) (d13 : Known K "_law_load" (top 30)) (d14 : Known K "_law_draw" (top 31)) (d15 : Known K "_law_same" (top 32)) (d16 : Known K "_law_message" (top 33)) (d17 : Known K "_law_exchange" (top 34)) (d18 : Known K "_law_given" (top 35)) (d19 : Known K "_law_patient" (top 36)) (d20 : Known K "law" (top 37)) (g0 : GC K "ALONE" (.int 0)) (g1 : GC K "FIRST" (.int 16)) (g2 : GC K "NEXT" (.int 32)) (g3 : GC K "FLOW" (.int 48)) (g4 : GC K "GO_ON" (.int 0)) (g5 : GC K "WAIT" (.int 1)) (g6 : GC K "TOO_MUCH" (.int 2)) (g7 : GC K "ALONE_BYTES" (.int 7)) (g8 : GC K "FIRST_BYTES" (.int 6)) (g9 : GC K "NEXT_BYTES" (.int 7)) (g10 : GC K "PATIENCE" (.int 20)) (g11 : GC K "MOST_WAITS" (.int 4)) (b0 : PySem.W.nsIn K mainGlobals "+LongSender" = some none) (b1 : PySem.W.nsIn K mainGlobals "+LongTaker" = some none) (b2 : PySem.W.nsIn K mainGlobals ":LongSender.data" = some none) (b3 : PySem.W.nsIn K mainGlobals ":LongSender.hear" = some none) (b4 : PySem.W.nsIn K mainGlobals ":LongSender.sent" = some none) (b5 : PySem.W.nsIn K mainGlobals ":LongSender.state" = some none) (b6 : PySem.W.nsIn K mainGlobals ":LongSender.tick" = some none) (b7 : PySem.W.nsIn K mainGlobals ":LongTaker._hear_next" = some none) (b8 : PySem.W.nsIn K mainGlobals ":LongTaker._leave" = some none) (b9 : PySem.W.nsIn K mainGlobals ":LongTaker.hear" = some none) (b10 : PySem.W.nsIn K mainGlobals ":LongTaker.messages" = some none) (b11 : PySem.W.nsIn K mainGlobals ":LongTaker.refused" = some none) (b12 : PySem.W.nsIn K mainGlobals ":LongTaker.tick" = some none) (b13 : PySem.W.nsIn K mainGlobals "@LongSender._begun" = some none) (b14 : PySem.W.nsIn K mainGlobals "@LongSender._gap" = some none) (b15 : PySem.W.nsIn K mainGlobals "@LongSender._left" = some none) (b16 : PySem.W.nsIn K mainGlobals "@LongSender._long" = some none) (b17 : PySem.W.nsIn K mainGlobals "@LongSender._may" = some none) (b18 : PySem.W.nsIn K mainGlobals "@LongSender._rest" = some none) (b19 : PySem.W.nsIn K mainGlobals "@LongSender._state" = some none) (b20 : PySem.W.nsIn K mainGlobals "@LongSender._ticks" = some none) (b21 : PySem.W.nsIn K mainGlobals "@LongSender._waits" = some none) (b22 : PySem.W.nsIn K mainGlobals "@LongTaker._block" = some none) (b23 : PySem.W.nsIn K mainGlobals "@LongTaker._count" = some none) (b24 : PySem.W.nsIn K mainGlobals "@LongTaker._gap" = some none) (b25 : PySem.W.nsIn K mainGlobals "@LongTaker._got" = some none) (b26 : PySem.W.nsIn K mainGlobals "@LongTaker._last" = some none) (b27 : PySem.W.nsIn K mainGlobals "@LongTaker._number" = some none) (b28 : PySem.W.nsIn K mainGlobals "@LongTaker._refused" = some none) (b29 : PySem.W.nsIn K mainGlobals "@LongTaker._room" = some none) (b30 : PySem.W.nsIn K mainGlobals "@LongTaker._size" = some none) (b31 : PySem.W.nsIn K mainGlobals "@LongTaker._ticks" = some none) (b32 : PySem.W.nsIn K mainGlobals "@LongTaker._whole" = some none) (b33 : PySem.W.nsIn K mainGlobals "all" = some none) (b34 : PySem.W.nsIn K mainGlobals "bool" = some none) (b35 : PySem.W.nsIn K mainGlobals "dict" = some none) (b36 : PySem.W.nsIn K mainGlobals "int" = some none) (b37 : PySem.W.nsIn K mainGlobals "isinstance" = some none) (b38 : PySem.W.nsIn K mainGlobals "len" = some none) (b39 : PySem.W.nsIn K mainGlobals "list" = some none) (b40 : PySem.W.nsIn K mainGlobals "max" = some none) (b41 : PySem.W.nsIn K mainGlobals "min" = some none) (b42 : PySem.W.nsIn K mainGlobals "range" = some none) (b43 : PySem.W.nsIn K mainGlobals "sorted" = some none) (b44 : PySem.W.nsIn K mainGlobals "str" = some none) (b45 : PySem.W.nsIn K mainGlobals "tuple" = some none) {C0 : Addr} (k0 : ClsA K "LongSender" C0) (k0m : PySem.W.makesIn K C0 = true) (k0k : PySem.W.keepIn K (.ref C0) = true) {C1 : Addr} (k1 : ClsA K "LongTaker" C1) (k1m : PySem.W.makesIn K C1 = true) (k1k : PySem.W.keepIn K (.ref C1) = true) (q0 : InC K C0 "__init__" "LongSender.__init__" (inCls (top 25) 0)) (q1 : InC K C0 "data" "LongSender.data" (inCls (top 25) 2)) (q2 : InC K C0 "hear" "LongSender.hear" (inCls (top 25) 4)) (q3 : InC K C0 "sent" "LongSender.sent" (inCls (top 25) 3)) (q4 : InC K C0 "state" "LongSender.state" (inCls (top 25) 1)) (q5 : InC K C0 "tick" "LongSender.tick" (inCls (top 25) 5)) (q6 : InC K C1 "__init__" "LongTaker.__init__" (inCls (top 26) 0)) (q7 : InC K C1 "_hear_next" "LongTaker._hear_next" (inCls (top 26) 5)) (q8 : InC K C1 "_leave" "LongTaker._leave" (inCls (top 26) 3)) (q9 : InC K C1 "hear" "LongTaker.hear" (inCls (top 26) 4)) (q10 : InC K C1 "messages" "LongTaker.messages" (inCls (top 26) 1)) (q11 : InC K C1 "refused" "LongTaker.refused" (inCls (top 26) 2)) (q12 : InC K C1 "tick" "LongTaker.tick" (inCls (top 26) 6)) (f0 : PySem.W.findIn K (.ref C0) "_begun" = some none) (f1 : PySem.W.findIn K (.ref C0) "_gap" = some none) (f2 : PySem.W.findIn K (.ref C0) "_left" = some none) (f3 : PySem.W.findIn K (.ref C0) "_long" = some none) (f4 : PySem.W.findIn K (.ref C0) "_may" = some none) (f5 : PySem.W.findIn K (.ref C0) "_rest" = some none) (f6 : PySem.W.findIn K (.ref C0) "_state" = some none) (f7 : PySem.W.findIn K (.ref C0) "_ticks" = some none) (f8 : PySem.W.findIn K (.ref C0) "_waits" = some none) (f9 : PySem.W.findIn K (.ref C1) "_block" = some none) (f10 : PySem.W.findIn K (.ref C1) "_count" = some none) (f11 : PySem.W.findIn K (.ref C1) "_gap" = some none) (f12 : PySem.W.findIn K (.ref C1) "_got" = some none) (f13 : PySem.W.findIn K (.ref C1) "_last" = some none) (f14 : PySem.W.findIn K (.ref C1) "_number" = some none) (f15 : PySem.W.findIn K (.ref C1) "_refused" = some none) (f16 : PySem.W.findIn K (.ref C1) "_room" = some none) (f17 : PySem.W.findIn K (.ref C1) "_size" = some none) (f18 : PySem.W.findIn K (.ref C1) "_ticks" = some none) (f19 : PySem.W.findIn K (.ref C1) "_whole" = some none) :
    Ready PP K mg fs bs cs cds Q ∧ Known K "law" (top 37) :=
  ⟨⟨trivial, ⟨PySem.W.mg_none_of X G b0, PySem.W.mg_none_of X G b1, PySem.W.mg_none_of X G b2, PySem.W.mg_none_of X G b3, PySem.W.mg_none_of X G b4, PySem.W.mg_none_of X G b5, PySem.W.mg_none_of X G b6, PySem.W.mg_none_of X G b7, PySem.W.mg_none_of X G b8, PySem.W.mg_none_of X G b9, PySem.W.mg_none_of X G b10, PySem.W.mg_none_of X G b11, PySem.W.mg_none_of X G b12, PySem.W.mg_none_of X G b13, PySem.W.mg_none_of X G b14, PySem.W.mg_none_of X G b15, PySem.W.mg_none_of X G b16, PySem.W.mg_none_of X G b17, PySem.W.mg_none_of X G b18, PySem.W.mg_none_of X G b19, PySem.W.mg_none_of X G b20, PySem.W.mg_none_of X G b21, PySem.W.mg_none_of X G b22, PySem.W.mg_none_of X G b23, PySem.W.mg_none_of X G b24, PySem.W.mg_none_of X G b25, PySem.W.mg_none_of X G b26, PySem.W.mg_none_of X G b27, PySem.W.mg_none_of X G b28, PySem.W.mg_none_of X G b29, PySem.W.mg_none_of X G b30, PySem.W.mg_none_of X G b31, PySem.W.mg_none_of X G b32, PySem.W.mg_none_of X G b33, PySem.W.mg_none_of X G b34, PySem.W.mg_none_of X G b35, PySem.W.mg_none_of X G b36, PySem.W.mg_none_of X G b37, PySem.W.mg_none_of X G b38, PySem.W.mg_none_of X G b39, PySem.W.mg_none_of X G b40, PySem.W.mg_none_of X G b41, PySem.W.mg_none_of X G b42, PySem.W.mg_none_of X G b43, PySem.W.mg_none_of X G b44, PySem.W.mg_none_of X G b45, trivial⟩, ⟨g0.ok X G, g1.ok X G, g2.ok X G, g3.ok X G, g4.ok X G, g5.ok X G, g6.ok X G, g7.ok X G, g8.ok X G, g9.ok X G, g10.ok X G, g11.ok X G, trivial⟩, ⟨d0.ok X G d_alone_data, d1.ok X G d_first_data, d2.ok X G d_next_data, d3.ok X G d_flow_data, d4.ok X G d_datas_of, d5.ok X G d_read_alone, d6.ok X G d_read_first, d7.ok X G d_read_data, d8.ok X G d_frames_needed, d9.ok X G d_flows_needed, d10.ok X G d_ticks_needed, d11.ok X G d_carried, d12.ok X G d__law_box, d13.ok X G d__law_load, d14.ok X G d__law_draw, d15.ok X G d__law_same, d16.ok X G d__law_message, d17.ok X G d__law_exchange, d18.ok X G d__law_given, d19.ok X G d__law_patient, d20.ok X G d_law, trivial⟩, ⟨⟨_, _, _, _, _, _, k0, mq_LongSender_data, q1, d_LongSender_data, z_LongSender_data, lookup_at (i := 1) ms_nodup rfl⟩, ⟨_, _, _, _, _, _, k0, mq_LongSender_hear, q2, d_LongSender_hear, z_LongSender_hear, lookup_at (i := 2) ms_nodup rfl⟩, ⟨_, _, _, _, _, _, k0, mq_LongSender_sent, q3, d_LongSender_sent, z_LongSender_sent, lookup_at (i := 3) ms_nodup rfl⟩, ⟨_, _, _, _, _, _, k0, mq_LongSender_state, q4, d_LongSender_state, z_LongSender_state, lookup_at (i := 4) ms_nodup rfl⟩, ⟨_, _, _, _, _, _, k0, mq_LongSender_tick, q5, d_LongSender_tick, z_LongSender_tick, lookup_at (i := 5) ms_nodup rfl⟩, ⟨_, _, _, _, _, _, k1, mq_LongTaker__hear_next, q7, d_LongTaker__hear_next, z_LongTaker__hear_next, lookup_at (i := 7) ms_nodup rfl⟩, ⟨_, _, _, _, _, _, k1, mq_LongTaker__leave, q8, d_LongTaker__leave, z_LongTaker__leave, lookup_at (i := 8) ms_nodup rfl⟩, ⟨_, _, _, _, _, _, k1, mq_LongTaker_hear, q9, d_LongTaker_hear, z_LongTaker_hear, lookup_at (i := 9) ms_nodup rfl⟩, ⟨_, _, _, _, _, _, k1, mq_LongTaker_messages, q10, d_LongTaker_messages, z_LongTaker_messages, lookup_at (i := 10) ms_nodup rfl⟩, ⟨_, _, _, _, _, _, k1, mq_LongTaker_refused, q11, d_LongTaker_refused, z_LongTaker_refused, lookup_at (i := 11) ms_nodup rfl⟩, ⟨_, _, _, _, _, _, k1, mq_LongTaker_tick, q12, d_LongTaker_tick, z_LongTaker_tick, lookup_at (i := 12) ms_nodup rfl⟩, ⟨_, _, _, _, _, _, k0, k0m, k0k, mq_LongSender___init__, q0, d_LongSender___init__, z_LongSender___init__, lookup_at (i := 0) ms_nodup rfl⟩, ⟨_, _, _, _, _, _, k1, k1m, k1k, mq_LongTaker___init__, q6, d_LongTaker___init__, z_LongTaker___init__, lookup_at (i := 6) ms_nodup rfl⟩, ⟨_, k0, f0⟩, ⟨_, k0, f1⟩, ⟨_, k0, f2⟩, ⟨_, k0, f3⟩, ⟨_, k0, f4⟩, ⟨_, k0, f5⟩, ⟨_, k0, f6⟩, ⟨_, k0, f7⟩, ⟨_, k0, f8⟩, ⟨_, k1, f9⟩, ⟨_, k1, f10⟩, ⟨_, k1, f11⟩, ⟨_, k1, f12⟩, ⟨_, k1, f13⟩, ⟨_, k1, f14⟩, ⟨_, k1, f15⟩, ⟨_, k1, f16⟩, ⟨_, k1, f17⟩, ⟨_, k1, f18⟩, ⟨_, k1, f19⟩, trivial⟩⟩, d20⟩
end Mp

set_option Elab.async false
set_option linter.all false
set_option maxRecDepth 100000
namespace Mp
open PySem PySem.Spec PyProof.Rows L2
/-! ### the box of drawn numbers -/
structure Bx where
  cells : List Int
  a : Int
  b : Int
def bx (s : Bx) (r : Obs) : Obs := .ls (s.cells.map .int) :: .ls [.obj 0, .int s.a, .int s.b] :: r
@[simp] theorem lsO_bx0 (s : Bx) (r : Obs) : lsO (bx s r) (.obj 0) = some (s.cells.map .int) := (rfl)
@[simp] theorem lsO_bx1 (s : Bx) (r : Obs) : lsO (bx s r) (.obj 1) = some [.obj 0, .int s.a, .int s.b] := (rfl)
@[simp] theorem setO_bx1 (s : Bx) (r : Obs) (a b : Int) : setO (bx s r) (.obj 1) [.obj 0, .int a, .int b] = bx ⟨s.cells, a, b⟩ r := (rfl)
theorem pop_bx (c : Int) (cs : List Int) (a b : Int) (r : Obs) : omD "pop" (bx ⟨c :: cs, a, b⟩ r) (.obj 0) (.int 0) = some (.int c, bx ⟨cs, a, b⟩ r) := by
  have h : seqIndex? 0 ((c :: cs).map D.int).length = some 0 := seqIndex_of (by decide) (by simp)
  have h2 : lsO (bx ⟨c :: cs, a, b⟩ r) (.obj 0) = some ((c :: cs).map D.int) := rfl
  unfold omD
  rw [h2]
  simp only [show (("pop" : String) == "append") = false from by decide, show (("pop" : String) == "extend") = false from by decide, beq_self_eq_true, if_true, Bool.false_eq_true, if_false, h]
  rw [if_pos (by decide)]
  rfl
@[simp] theorem ixN_31 : ixN 3 1 = some 1 := (rfl)
@[simp] theorem ixN_32 : ixN 3 2 = some 2 := (rfl)
theorem bx_ex (s : Bx) (r : Obs) : ∃ x, bx s r = bx x r := ⟨s, rfl⟩
theorem load_ok (s : Bx) (r : Obs) (n : Nat) : ∃ v s', Fc (n + 1) "_law_load" [.obj 1] (bx s r) = .ok (.int v) (bx s' r) := by
  rw [r__law_load]
  obtain ⟨cells, a, b⟩ := s
  cases cells with
  | nil =>
    simp [m__law_load]
    exact bx_ex _ _
  | cons c cs =>
    by_cases h : 0 ≤ c
    · by_cases h2 : 1000000000000000000 ≤ 2 * c
      · simp [m__law_load, pop_bx, h, h2, mulOk_l]
        exact bx_ex _ _
      · simp [m__law_load, pop_bx, h, h2, mulOk_l]
        exact bx_ex _ _
    · by_cases h2 : 1000000000000000000 ≤ -2 * c - 1
      · simp [m__law_load, pop_bx, h, h2, mulOk_l]
        exact bx_ex _ _
      · simp [m__law_load, pop_bx, h, h2, mulOk_l]
        exact bx_ex _ _
theorem draw_ok (s : Bx) (r : Obs) (n : Nat) {many : Int} (h1 : 1 ≤ many) (h2 : many < 1073741824) : ∃ d s', Fc (n + 2) "_law_draw" [.obj 1, .int many] (bx s r) = .ok (.int d) (bx s' r) ∧ 0 ≤ d ∧ d < many := by
  rw [r__law_draw]
  have h0 : ¬ many = 0 := by omega
  have h3 : many.natAbs < 1073741824 := by omega
  have fin : ∀ v : Int, 0 ≤ v.fmod many ∧ v.fmod many < many := fun v => ⟨Int.fmod_nonneg_of_pos _ (by omega), Int.fmod_lt_of_pos _ (by omega)⟩
  obtain ⟨cells, a, b⟩ := s
  by_cases h : a < many
  · obtain ⟨v, s', e⟩ := load_ok ⟨cells, a, b⟩ r n
    obtain ⟨c', a', b'⟩ := s'
    refine ⟨v.fmod many, ⟨c', v.fdiv many, b'⟩, ?_, fin _⟩
    simp [m__law_draw, h, e, h0, h3]
  · refine ⟨a.fmod many, ⟨cells, a.fdiv many, b⟩, ?_, fin _⟩
    simp [m__law_draw, h, h0, h3]
theorem draw_wp {s : Bx} {r : Obs} {n : Nat} {many : Int} {P : D → Obs → Prop} (hn : 2 ≤ n) (h1 : 1 ≤ many) (h2 : many < 1073741824) (h : ∀ d s', 0 ≤ d → d < many → P (.int d) (bx s' r)) : (Fc n "_law_draw" [.obj 1, .int many] (bx s r)).wp P := by
  obtain ⟨k, rfl⟩ : ∃ k, n = k + 2 := ⟨n - 2, by omega⟩
  obtain ⟨d, s', e, p, q⟩ := draw_ok s r k h1 h2
  rw [e]
  exact h d s' p q
theorem box_ok (ns : List Int) (n : Nat) : ∃ s', Fc (n + 1) "_law_box" [.loc ns] [] = .ok (.obj 1) (bx s' []) := by
  rw [r__law_box]
  simp [m__law_box, cut_to]
  exact ⟨⟨ns.take 63, 0, 4711 + ns.length⟩, by simp [bx]⟩
/-- a comprehension of draws -/
theorem draws_ok (n : Nat) {many : Int} (h1 : 1 ≤ many) (h2 : many < 1073741824) (b j : Nat) (env : Env) (hb : ∀ d, getD' ((wipeE env [j]).set j (.v d)) b = some (.obj 1)) (r : Obs) : ∀ (ds acc : List D) (s : Bx), ds.length + acc.length < 16777216 → (∀ d ∈ acc, ∃ i : Int, d = .int i ∧ 0 ≤ i ∧ i < many) →
    ∃ es s', lcD [j] (.nm j) (denC (Fc (n + 2)) Gl .none) (denE (Fc (n + 2)) Gl (.call "_law_draw" (.cons (.var b) (.cons (.lit (.int many)) .nil)))) env ds acc (bx s r) = .ok es (bx s' r) ∧ es.length = acc.length + ds.length ∧ ∀ d ∈ es, ∃ i : Int, d = .int i ∧ 0 ≤ i ∧ i < many
  | [], acc, s, _, ha => ⟨acc, s, rfl, by simp, ha⟩
  | d :: ds, acc, s, hl, ha => by
    obtain ⟨v, s', e, p, q⟩ := draw_ok s r n h1 h2
    simp only [List.length_cons] at hl
    obtain ⟨es, s2, e2, l2, a2⟩ := draws_ok n h1 h2 b j env hb r ds (acc ++ [.int v]) s' (by simp; omega) (fun d hd => by
      rcases List.mem_append.mp hd with hd | hd
      · exact ha d hd
      · simp at hd; exact ⟨v, hd, p, q⟩)
    refine ⟨es, s2, ?_, by rw [l2]; simp; omega, a2⟩
    unfold lcD
    have hl' : acc.length < 16777216 := by omega
    simp [-wipeE_cons, hb, e, hl']
    exact e2

/-! ### _law_same: plain data are as they are -/
theorem lc_same (n : Nat) (o : Obs) (ih : ∀ (d : D) (o : Obs), plainD d = true → depD d < n → Fc n "_law_same" [d, d] o = .ok (.bl true) o) (ds : List D) (x y : D) (hix : ∀ (i : Nat) (e : D), ds[i]? = some e → ixD x (.int i) = some e ∧ ixD y (.int i) = some e) (hds : ∀ e ∈ ds, plainD e = true ∧ depD e < n) (hl : ds.length < 16777216) :
        lcD [2] (.nm 2) (denC (Fc n) Gl .none) (denE (Fc n) Gl (.call "_law_same" (.cons (.ix (.var 0) (.var 2)) (.cons (.ix (.var 1) (.var 2)) .nil)))) [.v x, .v y, .un] (rangeD 0 ds.length 1) [] o = .ok ((rangeD 0 ds.length 1).map fun _ => .bl true) o := by
      have := lcD_map (own := [2]) (tg := .nm 2) (t := denC (Fc n) Gl .none) (x := denE (Fc n) Gl (.call "_law_same" (.cons (.ix (.var 0) (.var 2)) (.cons (.ix (.var 1) (.var 2)) .nil)))) (env := [.v x, .v y, .un]) (o := o) (p := fun _ => true) (f := fun _ => .bl true) (ds := rangeD 0 ds.length 1) (acc := []) (by simp [rangeD_len]; omega) (fun d hd => by
        obtain ⟨i, hi⟩ := List.getElem?_of_mem hd
        obtain ⟨h1, rfl⟩ := rangeD_at hi
        refine ⟨_, rfl, by simp, fun _ => ?_⟩
        have he := List.getElem?_eq_getElem h1
        obtain ⟨a, b⟩ := hix i _ he
        have z := hds _ (List.getElem_mem h1)
        simp [a, b, ih _ o z.1 z.2])
      rw [this, filter_true, List.nil_append]
theorem same_ok : ∀ (n : Nat) (d : D) (o : Obs), plainD d = true → depD d < n → Fc n "_law_same" [d, d] o = .ok (.bl true) o := by
  intro n
  induction n with
  | zero => exact fun _ _ _ h => absurd h (Nat.not_lt_zero _)
  | succ n ih =>
    intro d o hp hd
    rw [r__law_same]
    cases d with
    | non => simp [m__law_same]
    | bl b => simp [m__law_same]
    | int b => simp [m__law_same]
    | str b =>
      have h : okS b = true := by simpa only [plainD] using hp
      simp [m__law_same, h]
    | tup ds =>
      simp only [plainD, Bool.and_eq_true, decide_eq_true_eq] at hp
      simp only [depD] at hd
      have := lc_same n o ih ds (.tup ds) (.tup ds) (fun i e h => ⟨(by rw [ix_tup, atI_nat (List.getElem?_eq_some_iff.mp h).1]; exact h), (by rw [ix_tup, atI_nat (List.getElem?_eq_some_iff.mp h).1]; exact h)⟩) (fun e he => ⟨plainDs_get hp.1 he, by have := depDs_get he; omega⟩) hp.2
      simp [m__law_same, hp.2, this, rangeD_len]
    | lst ds =>
      simp only [plainD, Bool.and_eq_true, decide_eq_true_eq] at hp
      simp only [depD] at hd
      have := lc_same n o ih ds (.lst ds) (.lst ds) (fun i e h => ⟨(by rw [ix_lst, atI_nat (List.getElem?_eq_some_iff.mp h).1]; exact h), (by rw [ix_lst, atI_nat (List.getElem?_eq_some_iff.mp h).1]; exact h)⟩) (fun e he => ⟨plainDs_get hp.1 he, by have := depDs_get he; omega⟩) hp.2
      simp [m__law_same, hp.2, this, rangeD_len]
    | _ => simp [plainD] at hp

/-! ### data of messages -/
/-- a byte -/
def isB (d : D) : Prop := ∃ i, d = .int i ∧ 0 ≤ i ∧ i < 256
def Bs (ds : List D) : Prop := ∀ d ∈ ds, isB d
theorem Bs.plain {ds : List D} (h : Bs ds) : plainDs ds = true := plainDs_of fun d hd => by
  obtain ⟨i, rfl, _⟩ := h d hd; rfl
theorem Bs.dep {ds : List D} (h : Bs ds) : depDs ds ≤ 0 := depDs_le fun d hd => by
  obtain ⟨i, rfl, _⟩ := h d hd; exact Nat.le_refl _
theorem Bs.take {ds : List D} (h : Bs ds) (k : Nat) : Bs (ds.take k) := fun d hd => h d (List.mem_of_mem_take hd)
theorem Bs.drop {ds : List D} (h : Bs ds) (k : Nat) : Bs (ds.drop k) := fun d hd => h d (List.mem_of_mem_drop hd)
theorem Bs.cons {ds : List D} (h : Bs ds) {i : Int} (a : 0 ≤ i) (b : i < 256) : Bs (.int i :: ds) := fun d hd => by
  rcases List.mem_cons.mp hd with rfl | hd
  · exact ⟨i, rfl, a, b⟩
  · exact h d hd
theorem Bs.app {ds es : List D} (h : Bs ds) (g : Bs es) : Bs (ds ++ es) := fun d hd => by
  rcases List.mem_append.mp hd with hd | hd
  · exact h d hd
  · exact g d hd
def iD : D → Int | .int i => i | _ => 0
def readP : List D → D
  | [] => .non
  | d :: r => 
    if iD d / 16 = 0 then (if iD d % 16 < 8 ∧ ((r.length : Int) + 1) = iD d % 16 + 1 then .tup [.str "alone", .tup r] else .non)
    else if iD d / 16 = 1 then (if ((r.length : Int) + 1) = 8 ∧ iD d % 16 * 256 + iD (r.headD .non) > 7 then .tup [.str "first", .int (iD d % 16 * 256 + iD (r.headD .non)), .tup r.tail] else .non)
    else if iD d / 16 = 2 then (if ((r.length : Int) + 1) > 1 then .tup [.str "next", .int (iD d % 16), .tup r] else .non)
    else if iD d / 16 = 3 ∧ iD d % 16 < 3 ∧ ((r.length : Int) + 1) = 3 then .tup [.str "flow", .int (iD d % 16), r.headD .non, r.tail.headD .non] else .non
theorem read_alone_ok (n : Nat) (b : Int) (r : List D) (o : Obs) : Fc (n + 1) "read_alone" [.tup (.int b :: r)] o = .ok (if b ≤ 7 ∧ (r.length : Int) = b then .tup [.str "alone", .tup r] else .non) o := by
  rw [r_read_alone]
  by_cases q : b ≤ 7
  · by_cases q2 : (r.length : Int) = b <;> simp [m_read_alone, q, q2]
  · simp [m_read_alone, q]
theorem read_first_ok (n : Nat) (b : Int) (r : List D) (o : Obs) (h : Bs r) : Fc (n + 1) "read_first" [.tup (.int b :: r)] o = .ok (if (r.length : Int) + 1 = 8 ∧ (b - 16) * 256 + iD (r.headD .non) > 7 then .tup [.str "first", .int ((b - 16) * 256 + iD (r.headD .non)), .tup r.tail] else .non) o := by
  rw [r_read_first]
  cases r with
  | nil => simp [m_read_first]
  | cons c r =>
    obtain ⟨c, rfl, h2, h3⟩ := h c List.mem_cons_self
    by_cases q : (r.length : Int) + 1 + 1 = 8
    · by_cases q2 : 7 < (b - 16) * 256 + c <;> simp [m_read_first, iD, q, q2]
    · simp [m_read_first, iD, q]
theorem Bs.ok {ds : List D} (h : Bs ds) (hl : ds.length < 16777216) : okD (.tup ds) = true := by
  have := h.dep
  unfold okD
  rw [Bool.and_eq_true, decide_eq_true_eq]
  refine ⟨?_, ?_⟩
  · simp only [plainD, h.plain, Bool.true_and, decide_eq_true_eq]; exact hl
  · simp only [depD]; omega
theorem read_data_ok (n : Nat) (ds : List D) (o : Obs) (h : Bs ds) (hl : ds.length < 1000) : Fc (n + 2) "read_data" [.tup ds] o = .ok (readP ds) o := by
  rw [r_read_data]
  have e0 : okD (.tup []) = true := rfl
  cases ds with
  | nil => simp [m_read_data, readP, eq_okD e0 e0, eqvD, eqvDs]
  | cons d r =>
    obtain ⟨b, rfl, h0, h1⟩ := h d List.mem_cons_self
    have hr : Bs r := fun d hd => h d (List.mem_cons_of_mem _ hd)
    have e3 := eq_okD (h.ok (by omega)) e0
    simp only [eqvD, eqvDs] at e3
    obtain ⟨q, hq⟩ : ∃ q, b / 16 = q := ⟨_, rfl⟩
    obtain ⟨s, hs⟩ : ∃ s, b % 16 = s := ⟨_, rfl⟩
    by_cases q0 : b < 16
    · have a1 : q = 0 := by omega
      have a2 : b = s := by omega
      subst a1; subst a2
      have := read_alone_ok n b r o
      simp [m_read_data, readP, iD, hq, hs, e3, q0, this]
      by_cases q7 : b ≤ 7
      · have : b < 8 := by omega
        simp [q7, this]
      · have : ¬ b < 8 := by omega
        simp [q7, this]
    · by_cases q1 : b < 32
      · have a1 : q = 1 := by omega
        have a2 : b - 16 = s := by omega
        subst a1
        have := read_first_ok n b r o hr
        rw [a2] at this
        simp [m_read_data, readP, iD, hq, hs, e3, q0, q1, this]
      · by_cases q2 : b < 48
        · have a1 : q = 2 := by omega
          have a2 : b - 32 = s := by omega
          subst a1
          by_cases q3 : (0 : Int) < (r.length : Int)
          · have q' : (1 : Int) < (r.length : Int) + 1 := by omega
            simp [m_read_data, readP, iD, hq, hs, e3, q0, q1, q2, a2, q']
          · have q' : ¬ (1 : Int) < (r.length : Int) + 1 := by omega
            simp [m_read_data, readP, iD, hq, hs, e3, q0, q1, q2, a2, q']
        · have a1 : ¬ q = 0 := by omega
          have a2 : ¬ q = 1 := by omega
          have a3 : ¬ q = 2 := by omega
          by_cases q3 : b ≤ 50
          · have a4 : q = 3 := by omega
            have a5 : s < 3 := by omega
            have a6 : b - 48 = s := by omega
            subst a4
            by_cases q4 : (r.length : Int) + 1 = 3
            · cases r with
              | nil => simp at q4
              | cons c r =>
                cases r with
                | nil => simp at q4
                | cons f r =>
                  have q5 : (r.length : Int) + 1 + 1 + 1 = 3 := by simpa using q4
                  simp [m_read_data, readP, iD, hq, hs, e3, q0, q1, q2, q3, a5, a6, q5]
            · simp [m_read_data, readP, iD, hq, hs, e3, q0, q1, q2, q4]
          · have a4 : ¬ (q = 3 ∧ s < 3) := by omega
            have a5 : ¬ (q = 3 ∧ s < 3 ∧ (r.length : Int) + 1 = 3) := fun z => a4 ⟨z.1, z.2.1⟩
            by_cases q4 : (r.length : Int) + 1 = 3 <;> simp [m_read_data, readP, iD, hq, hs, e3, q0, q1, q2, q3, a1, a2, a3, a4, a5, q4]
def partP (ds : List D) (k : Nat) : D := .tup (.int (32 + (k : Int) % 16) :: (ds.drop (7 * k - 1)).take 7)
def headP (ds : List D) : D := .tup (.int (16 + (ds.length : Int) / 256) :: .int ((ds.length : Int) % 256) :: ds.take 6)
def datasP (ds : List D) : List D := if ds.length < 8 then [.tup (.int ds.length :: ds)] else headP ds :: (List.range (ds.length / 7)).map fun k => partP ds (k + 1)
theorem next_data_ok (n : Nat) (k : Int) (ds : List D) (o : Obs) (hl : ds.length ≤ 7) : Fc (n + 1) "next_data" [.int k, .tup ds] o = .ok (.tup (.int (32 + k.fmod 16) :: ds)) o := by
  rw [r_next_data]
  have : 1 + ds.length ≤ 16777216 := by omega
  simp [m_next_data, this]
theorem first_data_ok (n : Nat) (ds : List D) (o : Obs) : Fc (n + 1) "first_data" [.tup ds] o = .ok (headP ds) o := by
  rw [r_first_data]
  have e1 : (ds.length : Int).fdiv 256 = (ds.length : Int) / 256 := Int.fdiv_eq_ediv_of_nonneg _ (by decide)
  have e2 : (ds.length : Int).fmod 256 = (ds.length : Int) % 256 := Int.fmod_eq_emod_of_nonneg _ (by decide)
  have e3 : 1 + 1 + min 6 ds.length ≤ 16777216 := by omega
  simp [m_first_data, cut_to, e1, e2, e3, headP]
theorem alone_data_ok (n : Nat) (ds : List D) (o : Obs) (hl : ds.length < 16777216) : Fc (n + 1) "alone_data" [.tup ds] o = .ok (.tup (.int ds.length :: ds)) o := by
  rw [r_alone_data]
  have e3 : 1 + ds.length ≤ 16777216 := by omega
  simp [m_alone_data, e3]
theorem rng_ok {m : Nat} (h : 8 ≤ m) (h2 : m < 16777216) : rng3 6 (m : Int) 7 = some (rangeD 6 (m / 7) 7) := by
  have hr : Builtin.Range.rangeSize 6 (m : Int) 7 = ((m / 7 : Nat) : Int) := by
    unfold Builtin.Range.rangeSize
    rw [if_pos (by decide), if_pos (by omega)]
    omega
  have fl : ∀ z : Int, 0 ≤ z → z < 20000000 → Builtin.Range.rangeFitsLong z = true := fun z a b => by
    unfold Builtin.Range.rangeFitsLong
    simp
    omega
  have hs : Builtin.Range.small 6 (m : Int) 7 = true := by
    unfold Builtin.Range.small
    rw [hr, fl 6 (by decide) (by decide), fl m (by omega) (by omega), fl 7 (by decide) (by decide), fl _ (by omega) (by omega), if_pos (by decide), fl (m + (7 - 1)) (by omega) (by omega)]
    simp
  unfold rng3
  rw [hs, hr]
  have : (0 : Int) ≤ (m : Int) / 7 := by omega
  simp [this]
  rfl
theorem datas_of_ok (n : Nat) (ds : List D) (o : Obs) (hl : ds.length < 10000) : Fc (n + 2) "datas_of" [.tup ds] o = .ok (.lst (datasP ds)) o := by
  rw [r_datas_of]
  by_cases h : ds.length < 8
  · have h1 : (ds.length : Int) ≤ 7 := by omega
    have := alone_data_ok n ds o (by omega)
    simp [m_datas_of, datasP, h, h1, this]
  · have h1 : ¬ (ds.length : Int) ≤ 7 := by omega
    have := first_data_ok n ds o
    simp [m_datas_of, datasP, h, h1, this, rng_ok (m := ds.length) (by omega) (by omega)]
    refine endR_seq (forD_wp (fun i env o' => o' = o ∧ ∃ s, env = [.v (.tup ds), s, .ol (headP ds :: (List.range i).map fun k => partP ds (k + 1)), .v (.int (1 + i))]) (i := 0) ⟨rfl, .un, by simp⟩ ?_ ?_)
    · rintro j d env o' hj ⟨rfl, s, rfl⟩
      obtain ⟨hj, rfl⟩ := rangeD_at hj
      refine ⟨_, rfl, ?_⟩
      have e1 : cutD ds (some (6 + (j : Int) * 7)) (some (6 + (j : Int) * 7 + 7)) = (ds.drop (7 * (j + 1) - 1)).take 7 := by
        rw [cut_mid (by omega) (by omega)]
        congr 1
        · omega
        · congr 1; omega
      have e2 := next_data_ok n (1 + (j : Int)) ((ds.drop (7 * (j + 1) - 1)).take 7) o' (by simp; omega)
      have e3 : (1 + (j : Int)).fmod 16 = ((j + 1 : Nat) : Int) % 16 := by
        rw [Int.fmod_eq_emod_of_nonneg _ (by decide)]; congr 1; omega
      rw [e3] at e2
      have e4 : j + 1 < 16777216 := by omega
      simp [w_datas_of_0, e1, e2, e4, augD]
      exact ⟨by rw [List.range_succ, List.map_append]; simp [partP], by omega⟩
    · rintro env o' ⟨rfl, s, rfl⟩
      simp [rangeD_len]
theorem frames_needed_ok (n m : Nat) (o : Obs) : Fc (n + 1) "frames_needed" [.int m] o = .ok (.int (if m < 8 then 1 else 1 + (m / 7 : Nat))) o := by
  rw [r_frames_needed]
  by_cases h : m < 8
  · have h1 : (m : Int) ≤ 7 := by omega
    simp [m_frames_needed, h, h1]
  · have h1 : ¬ (m : Int) ≤ 7 := by omega
    have e : (6 - (m : Int)).fdiv 7 = (6 - (m : Int)) / 7 := Int.fdiv_eq_ediv_of_nonneg _ (by decide)
    simp [m_frames_needed, h, h1, e]
    omega
theorem flow_data_ok (n : Nat) (a b c : Int) (o : Obs) : Fc (n + 1) "flow_data" [.int a, .int b, .int c] o = .ok (.tup [.int (48 + a), .int b, .int c]) o := by
  rw [r_flow_data]
  simp [m_flow_data]
def flowsP (m b : Nat) : Int := if m < 8 then 0 else if b = 0 then 1 else -((-((m / 7 : Nat) : Int)) / b)
theorem flows_needed_ok (n m b : Nat) (o : Obs) (hb : b < 1000) : Fc (n + 2) "flows_needed" [.int m, .int b] o = .ok (.int (flowsP m b)) o := by
  rw [r_flows_needed]
  have e := frames_needed_ok n m o
  unfold flowsP
  by_cases h : m < 8
  · simp [m_flows_needed, h, e]
  · have h2 : 1 + (m : Int) / 7 - 1 = (m : Int) / 7 := by omega
    have h3 : ¬ ((m : Int) / 7 = 0) := by omega
    by_cases hb0 : b = 0
    · simp [m_flows_needed, h, e, h2, h3, hb0]
    · have e2 : (-((m : Int) / 7)).fdiv b = (-((m : Int) / 7)) / b := Int.fdiv_eq_ediv_of_nonneg _ (by omega)
      have e3 : b < 1073741824 := by omega
      simp [m_flows_needed, h, e, h2, h3, hb0, e2, e3]
theorem ticks_needed_ok (n m b : Nat) (g : Int) (o : Obs) (hb : b < 1000) (hg : 0 ≤ g) (hg2 : g < 1000) : Fc (n + 3) "ticks_needed" [.int m, .int b, .int g] o = .ok (.int ((if m < 8 then 0 else (m / 7 : Nat) - flowsP m b) * g)) o := by
  rw [r_ticks_needed]
  have e := frames_needed_ok (n + 1) m o
  have e2 := flows_needed_ok n m b o hb
  have e3 : g.natAbs < 18446744073709551616 := by omega
  by_cases h : m < 8
  · have : flowsP m b = 0 := by simp [flowsP, h]
    simp [m_ticks_needed, e, e2, e3, h, this]
  · have h2 : 1 + (m : Int) / 7 - 1 = (m : Int) / 7 := by omega
    simp [m_ticks_needed, e, e2, e3, h, h2]
theorem RS.nx_of {x : RS} {P : Env → Obs → Prop} (h : x.wp { nx := P }) : ∃ e o, x = .nx e o ∧ P e o := by
  cases x with
  | nx e o => exact ⟨e, o, rfl, h⟩
  | _ => exact h.elim
def unT (d : D) : List D := match d with | .tup x => x | _ => []
def rdD (d : D) : D := readP (unT d)
theorem datasP_mem {ds : List D} (h : Bs ds) (hl : ds.length < 200) : ∀ d ∈ datasP ds, ∃ x, d = .tup x ∧ Bs x ∧ 1 ≤ x.length ∧ x.length ≤ 8 := by
  intro d hd
  unfold datasP at hd
  split at hd
  · simp at hd; subst hd
    exact ⟨_, rfl, h.cons (by omega) (by omega), by simp, by simp; omega⟩
  · rcases List.mem_cons.mp hd with rfl | hd
    · refine ⟨_, rfl, ((h.take 6).cons (by omega) (by omega)).cons (by omega) (by omega), by simp, by simp; omega⟩
    · obtain ⟨k, hk, rfl⟩ := List.mem_map.mp hd
      exact ⟨_, rfl, ((h.drop _).take 7).cons (by omega) (by omega), by simp, by simp; omega⟩
theorem rd_alone {ds : List D} (hl : ds.length < 8) : rdD (.tup (.int ds.length :: ds)) = .tup [.str "alone", .tup ds] := by
  have a : (ds.length : Int) / 16 = 0 := by omega
  have b : (ds.length : Int) % 16 = ds.length := by omega
  have c : (ds.length : Int) < 8 := by omega
  simp [rdD, unT, readP, iD, a, b, c]
theorem rd_head {ds : List D} (hl : 8 ≤ ds.length) (hl2 : ds.length < 200) : rdD (headP ds) = .tup [.str "first", .int ds.length, .tup (ds.take 6)] := by
  have a : (ds.length : Int) / 256 = 0 := by omega
  have b : (ds.length : Int) % 256 = ds.length := by omega
  have c : (7 : Int) < ds.length := by omega
  have e : ((min 6 ds.length : Nat) : Int) + 1 + 1 = 8 := by omega
  have e' : min (6 : Int) ds.length + 1 + 1 = 8 := by omega
  simp [rdD, unT, headP, readP, iD, a, b, c, e, e']
theorem rd_part {ds : List D} {k : Nat} (hl : 7 * (k + 1) ≤ ds.length) : rdD (partP ds (k + 1)) = .tup [.str "next", .int (((k : Int) + 1) % 16), .tup ((ds.drop (7 * k + 6)).take 7)] := by
  have a : (32 + ((k : Int) + 1) % 16) / 16 = 2 := by omega
  have b : (32 + ((k : Int) + 1) % 16) % 16 = ((k : Int) + 1) % 16 := by omega
  have c : 7 * (k + 1) - 1 = 7 * k + 6 := by omega
  have e : (1 : Int) < ((min 7 (ds.length - (7 * k + 6)) : Nat) : Int) + 1 := by omega
  have e' : 0 < ds.length - (7 * k + 6) := by omega
  simp [rdD, unT, partP, readP, iD, a, b, c]
  omega
/-- how many frames behind the first one -/
def nx (m : Nat) : Nat := if m < 8 then 0 else m / 7
theorem nx_lt {m : Nat} (h : m < 200) : nx m < 29 := by unfold nx; split <;> omega
theorem datasP_nx (ds : List D) : (datasP ds).length = 1 + nx ds.length := by
  unfold datasP nx
  by_cases h : ds.length < 8
  · simp [h]
  · simp [h]; omega
def flF (x : Nat) (b : Nat) : Int := if x = 0 then 0 else if b = 0 then 1 else -((-(x : Int)) / b)
theorem flowsP_eq (m b : Nat) : flowsP m b = flF (nx m) b := by
  unfold flowsP flF nx
  by_cases h : m < 8
  · simp [h]
  · have : ¬ (m / 7 = 0) := by omega
    simp [h]
    omega
theorem plain_of_Bs {x : List D} (h : Bs x) (hl : x.length < 16777216) : plainD (.tup x) = true ∧ depD (.tup x) ≤ 1 := tupP (k := 0) (fun e he => by
  obtain ⟨i, rfl, _⟩ := h e he
  exact ⟨rfl, Nat.le_refl _⟩) hl
theorem lstP {ds : List D} {k : Nat} (h : ∀ e ∈ ds, plainD e = true ∧ depD e ≤ k) (hl : ds.length < 16777216) : plainD (.lst ds) = true ∧ depD (.lst ds) ≤ k + 1 := by
  have := tupP h hl
  simpa only [plainD, depD] using this

end Mp

set_option Elab.async false
set_option linter.all false
set_option maxRecDepth 100000
namespace Mp
open PySem PySem.Spec PyProof.Rows L2
/-! ### instances in the store -/
theorem insO_at {o : Obs} {c : Str} {i : Nat} {fs : List (Str × D)} (h : o[i]? = some (.ins c fs)) : insO o c (.obj i) = some fs := by
  unfold insO; simp [h]
theorem at_insO {o : Obs} {c : Str} {i : Nat} {fs : List (Str × D)} (h : insO o c (.obj i) = some fs) : o[i]? = some (.ins c fs) := by
  unfold insO at h
  simp only at h
  split at h
  · rename_i c' fs' e
    split at h
    · rename_i e2; subst e2; cases h; exact e
    · cases h
  · cases h
theorem insO_set {o : Obs} {c : Str} {i : Nat} {fs0 : List (Str × D)} (h : insO o c (.obj i) = some fs0) (fs : List (Str × D)) : insO (setIns o c (.obj i) fs) c (.obj i) = some fs := by
  have e := at_insO h
  have hi : i < o.length := (List.getElem?_eq_some_iff.mp e).1
  refine insO_at ?_
  show (o.set i (.ins c fs))[i]? = _
  rw [List.getElem?_set_self hi]
theorem setIns_set (o : Obs) (c : Str) (i : Nat) (fs fs' : List (Str × D)) : setIns (setIns o c (.obj i) fs) c (.obj i) fs' = setIns o c (.obj i) fs' := by
  show (o.set i _).set i _ = o.set i _
  rw [List.set_set]
theorem setIns_self {o : Obs} {c : Str} {i : Nat} {fs : List (Str × D)} (h : insO o c (.obj i) = some fs) : setIns o c (.obj i) fs = o := by
  have e := at_insO h
  show o.set i (.ins c fs) = o
  apply List.ext_getElem?
  intro k
  rw [List.getElem?_set]
  split
  · rename_i q; subst q
    rw [e, if_pos (List.getElem?_eq_some_iff.mp e).1]
  · rfl
@[simp] theorem tru_lstE (l : List D) : truD (.lst l) = some (!l.isEmpty) := (rfl)
@[simp] theorem tru_tupE (l : List D) : truD (.tup l) = some (!l.isEmpty) := (rfl)
theorem ins_ne_ls {o : Obs} {c : Str} {i w : Nat} {fs : List (Str × D)} {ws : List D} (h : insO o c (.obj i) = some fs) (hw : lsO o (.obj w) = some ws) : i ≠ w := by
  intro e; subst e
  have e := at_insO h
  have : lsO o (.obj i) = none := by unfold lsO; simp [e]
  rw [this] at hw; cases hw
theorem at_lsO {o : Obs} {w : Nat} {ws : List D} (h : lsO o (.obj w) = some ws) : o[w]? = some (.ls ws) := by
  unfold lsO at h
  simp only at h
  split at h
  · rename_i e; cases h; exact e
  · cases h
theorem lsO_at {o : Obs} {w : Nat} {ws : List D} (h : o[w]? = some (.ls ws)) : lsO o (.obj w) = some ws := by
  unfold lsO; simp [h]
theorem lsO_setIns {o : Obs} {c : Str} {i w : Nat} {fs : List (Str × D)} {ws : List D} (ne : i ≠ w) (h : lsO o (.obj w) = some ws) : lsO (setIns o c (.obj i) fs) (.obj w) = some ws := by
  refine lsO_at ?_
  show (o.set i _)[w]? = _
  rw [List.getElem?_set_ne ne]; exact at_lsO h
theorem insO_setO {o : Obs} {c : Str} {i w : Nat} {fs : List (Str × D)} {ds : List D} (ne : i ≠ w) {o' : Obs} (h : insO o' c (.obj i) = some fs) : insO (setO o' (.obj w) ds) c (.obj i) = some fs := by
  refine insO_at ?_
  show (o'.set w _)[i]? = _
  rw [List.getElem?_set_ne (Ne.symm ne)]; exact at_insO h
theorem setIns_setO {o : Obs} {c : Str} {i w : Nat} {fs : List (Str × D)} {ds : List D} (ne : i ≠ w) : setIns (setO o (.obj w) ds) c (.obj i) fs = setO (setIns o c (.obj i) fs) (.obj w) ds := by
  show (o.set w _).set i _ = (o.set i _).set w _
  exact List.set_comm _ _ (Ne.symm ne)
theorem omD_append {o : Obs} {w : Nat} {ws : List D} {x : D} (h : lsO o (.obj w) = some ws) (hl : ws.length < 16777216) : omD "append" o (.obj w) x = some (.non, setO o (.obj w) (ws ++ [x])) := by
  unfold omD
  rw [h]
  simp [hl]
@[simp] theorem tru_intE (b : Int) : truD (.int b) = some (b != 0) := (rfl)

/-! ### the fields of senders and takers (printed) -/
inductive St where | go | dn | rf
def St.s : St → Str | .go => "going" | .dn => "done" | .rf => "refused"
def St.isGo : St → Bool | .go => true | _ => false
@[simp] theorem isGo_go : St.go.isGo = true := (rfl)
@[simp] theorem isGo_dn : St.dn.isGo = false := (rfl)
@[simp] theorem isGo_rf : St.rf.isGo = false := (rfl)
@[simp] theorem st_ne (x : St) : cmpD .NotEq (.str x.s) (.str ("going" : Str)) = some (!x.isGo) := by cases x <;> decide +kernel
@[simp] theorem st_eq (x : St) : cmpD .Eq (.str x.s) (.str ("going" : Str)) = some x.isGo := by cases x <;> decide +kernel
structure Snd where
  left : List D
  long : Bool
  begun : Bool
  may : Int
  gap : Int
  rest : Int
  ticks : Int
  waits : Int
  st : St
def fsS (s : Snd) : List (Str × D) := [(("_left" : Str), .lst (s.left)), (("_long" : Str), .bl (s.long)), (("_begun" : Str), .bl (s.begun)), (("_may" : Str), .int (s.may)), (("_gap" : Str), .int (s.gap)), (("_rest" : Str), .int (s.rest)), (("_ticks" : Str), .int (s.ticks)), (("_waits" : Str), .int (s.waits)), (("_state" : Str), .str s.st.s)]
@[simp] theorem fsS_len (s : Snd) : (fsS s).length = 9 := (rfl)
@[simp] theorem fsS_get_left (s : Snd) : (fsS s).lookup ("_left" : Str) = some (.lst (s.left)) := (rfl)
@[simp] theorem fsS_put_left (s : Snd) (x : List D) : putD ("_left" : Str) (.lst x) (fsS s) = fsS { s with left := x } := (rfl)
@[simp] theorem fsS_get_long (s : Snd) : (fsS s).lookup ("_long" : Str) = some (.bl (s.long)) := (rfl)
@[simp] theorem fsS_put_long (s : Snd) (x : Bool) : putD ("_long" : Str) (.bl x) (fsS s) = fsS { s with long := x } := (rfl)
@[simp] theorem fsS_get_begun (s : Snd) : (fsS s).lookup ("_begun" : Str) = some (.bl (s.begun)) := (rfl)
@[simp] theorem fsS_put_begun (s : Snd) (x : Bool) : putD ("_begun" : Str) (.bl x) (fsS s) = fsS { s with begun := x } := (rfl)
@[simp] theorem fsS_get_may (s : Snd) : (fsS s).lookup ("_may" : Str) = some (.int (s.may)) := (rfl)
@[simp] theorem fsS_put_may (s : Snd) (x : Int) : putD ("_may" : Str) (.int x) (fsS s) = fsS { s with may := x } := (rfl)
@[simp] theorem fsS_get_gap (s : Snd) : (fsS s).lookup ("_gap" : Str) = some (.int (s.gap)) := (rfl)
@[simp] theorem fsS_put_gap (s : Snd) (x : Int) : putD ("_gap" : Str) (.int x) (fsS s) = fsS { s with gap := x } := (rfl)
@[simp] theorem fsS_get_rest (s : Snd) : (fsS s).lookup ("_rest" : Str) = some (.int (s.rest)) := (rfl)
@[simp] theorem fsS_put_rest (s : Snd) (x : Int) : putD ("_rest" : Str) (.int x) (fsS s) = fsS { s with rest := x } := (rfl)
@[simp] theorem fsS_get_ticks (s : Snd) : (fsS s).lookup ("_ticks" : Str) = some (.int (s.ticks)) := (rfl)
@[simp] theorem fsS_put_ticks (s : Snd) (x : Int) : putD ("_ticks" : Str) (.int x) (fsS s) = fsS { s with ticks := x } := (rfl)
@[simp] theorem fsS_get_waits (s : Snd) : (fsS s).lookup ("_waits" : Str) = some (.int (s.waits)) := (rfl)
@[simp] theorem fsS_put_waits (s : Snd) (x : Int) : putD ("_waits" : Str) (.int x) (fsS s) = fsS { s with waits := x } := (rfl)
@[simp] theorem fsS_get_st (s : Snd) : (fsS s).lookup ("_state" : Str) = some (.str s.st.s) := (rfl)
@[simp] theorem fsS_put_go (s : Snd) : putD ("_state" : Str) (.str ("going" : Str)) (fsS s) = fsS { s with st := .go } := (rfl)
@[simp] theorem fsS_put_dn (s : Snd) : putD ("_state" : Str) (.str ("done" : Str)) (fsS s) = fsS { s with st := .dn } := (rfl)
@[simp] theorem fsS_put_rf (s : Snd) : putD ("_state" : Str) (.str ("refused" : Str)) (fsS s) = fsS { s with st := .rf } := (rfl)
@[simp] theorem fsS_no_state (s : Snd) : (fsS s).lookup ("state" : Str) = none := (rfl)
@[simp] theorem fsS_no_data (s : Snd) : (fsS s).lookup ("data" : Str) = none := (rfl)
@[simp] theorem fsS_no_sent (s : Snd) : (fsS s).lookup ("sent" : Str) = none := (rfl)
@[simp] theorem fsS_no_hear (s : Snd) : (fsS s).lookup ("hear" : Str) = none := (rfl)
@[simp] theorem fsS_no_tick (s : Snd) : (fsS s).lookup ("tick" : Str) = none := (rfl)
@[simp] theorem fsS_new_left (x0 : D) : putD ("_left" : Str) x0 [] = [(("_left" : Str), x0)] := (rfl)
@[simp] theorem fsS_new_long (x0 x1 : D) : putD ("_long" : Str) x1 [(("_left" : Str), x0)] = [(("_left" : Str), x0), (("_long" : Str), x1)] := (rfl)
@[simp] theorem fsS_new_begun (x0 x1 x2 : D) : putD ("_begun" : Str) x2 [(("_left" : Str), x0), (("_long" : Str), x1)] = [(("_left" : Str), x0), (("_long" : Str), x1), (("_begun" : Str), x2)] := (rfl)
@[simp] theorem fsS_new_may (x0 x1 x2 x3 : D) : putD ("_may" : Str) x3 [(("_left" : Str), x0), (("_long" : Str), x1), (("_begun" : Str), x2)] = [(("_left" : Str), x0), (("_long" : Str), x1), (("_begun" : Str), x2), (("_may" : Str), x3)] := (rfl)
@[simp] theorem fsS_new_gap (x0 x1 x2 x3 x4 : D) : putD ("_gap" : Str) x4 [(("_left" : Str), x0), (("_long" : Str), x1), (("_begun" : Str), x2), (("_may" : Str), x3)] = [(("_left" : Str), x0), (("_long" : Str), x1), (("_begun" : Str), x2), (("_may" : Str), x3), (("_gap" : Str), x4)] := (rfl)
@[simp] theorem fsS_new_rest (x0 x1 x2 x3 x4 x5 : D) : putD ("_rest" : Str) x5 [(("_left" : Str), x0), (("_long" : Str), x1), (("_begun" : Str), x2), (("_may" : Str), x3), (("_gap" : Str), x4)] = [(("_left" : Str), x0), (("_long" : Str), x1), (("_begun" : Str), x2), (("_may" : Str), x3), (("_gap" : Str), x4), (("_rest" : Str), x5)] := (rfl)
@[simp] theorem fsS_new_ticks (x0 x1 x2 x3 x4 x5 x6 : D) : putD ("_ticks" : Str) x6 [(("_left" : Str), x0), (("_long" : Str), x1), (("_begun" : Str), x2), (("_may" : Str), x3), (("_gap" : Str), x4), (("_rest" : Str), x5)] = [(("_left" : Str), x0), (("_long" : Str), x1), (("_begun" : Str), x2), (("_may" : Str), x3), (("_gap" : Str), x4), (("_rest" : Str), x5), (("_ticks" : Str), x6)] := (rfl)
@[simp] theorem fsS_new_waits (x0 x1 x2 x3 x4 x5 x6 x7 : D) : putD ("_waits" : Str) x7 [(("_left" : Str), x0), (("_long" : Str), x1), (("_begun" : Str), x2), (("_may" : Str), x3), (("_gap" : Str), x4), (("_rest" : Str), x5), (("_ticks" : Str), x6)] = [(("_left" : Str), x0), (("_long" : Str), x1), (("_begun" : Str), x2), (("_may" : Str), x3), (("_gap" : Str), x4), (("_rest" : Str), x5), (("_ticks" : Str), x6), (("_waits" : Str), x7)] := (rfl)
@[simp] theorem fsS_new_st (x0 x1 x2 x3 x4 x5 x6 x7 x8 : D) : putD ("_state" : Str) x8 [(("_left" : Str), x0), (("_long" : Str), x1), (("_begun" : Str), x2), (("_may" : Str), x3), (("_gap" : Str), x4), (("_rest" : Str), x5), (("_ticks" : Str), x6), (("_waits" : Str), x7)] = [(("_left" : Str), x0), (("_long" : Str), x1), (("_begun" : Str), x2), (("_may" : Str), x3), (("_gap" : Str), x4), (("_rest" : Str), x5), (("_ticks" : Str), x6), (("_waits" : Str), x7), (("_state" : Str), x8)] := (rfl)
structure Tkr where
  room : Int
  block : Int
  gap : Int
  whole : Nat
  refused : Int
  size : D
  got : List D
  number : Int
  last : List D
  count : Int
  ticks : Int
def fsT (s : Tkr) : List (Str × D) := [(("_room" : Str), .int (s.room)), (("_block" : Str), .int (s.block)), (("_gap" : Str), .int (s.gap)), (("_whole" : Str), .obj (s.whole)), (("_refused" : Str), .int (s.refused)), (("_size" : Str), s.size), (("_got" : Str), .tup (s.got)), (("_number" : Str), .int (s.number)), (("_last" : Str), .tup (s.last)), (("_count" : Str), .int (s.count)), (("_ticks" : Str), .int (s.ticks))]
@[simp] theorem fsT_len (s : Tkr) : (fsT s).length = 11 := (rfl)
@[simp] theorem fsT_get_room (s : Tkr) : (fsT s).lookup ("_room" : Str) = some (.int (s.room)) := (rfl)
@[simp] theorem fsT_put_room (s : Tkr) (x : Int) : putD ("_room" : Str) (.int x) (fsT s) = fsT { s with room := x } := (rfl)
@[simp] theorem fsT_get_block (s : Tkr) : (fsT s).lookup ("_block" : Str) = some (.int (s.block)) := (rfl)
@[simp] theorem fsT_put_block (s : Tkr) (x : Int) : putD ("_block" : Str) (.int x) (fsT s) = fsT { s with block := x } := (rfl)
@[simp] theorem fsT_get_gap (s : Tkr) : (fsT s).lookup ("_gap" : Str) = some (.int (s.gap)) := (rfl)
@[simp] theorem fsT_put_gap (s : Tkr) (x : Int) : putD ("_gap" : Str) (.int x) (fsT s) = fsT { s with gap := x } := (rfl)
@[simp] theorem fsT_get_whole (s : Tkr) : (fsT s).lookup ("_whole" : Str) = some (.obj (s.whole)) := (rfl)
@[simp] theorem fsT_put_whole (s : Tkr) (x : Nat) : putD ("_whole" : Str) (.obj x) (fsT s) = fsT { s with whole := x } := (rfl)
@[simp] theorem fsT_get_refused (s : Tkr) : (fsT s).lookup ("_refused" : Str) = some (.int (s.refused)) := (rfl)
@[simp] theorem fsT_put_refused (s : Tkr) (x : Int) : putD ("_refused" : Str) (.int x) (fsT s) = fsT { s with refused := x } := (rfl)
@[simp] theorem fsT_get_size (s : Tkr) : (fsT s).lookup ("_size" : Str) = some (s.size) := (rfl)
@[simp] theorem fsT_put_size (s : Tkr) (x : D) : putD ("_size" : Str) (x) (fsT s) = fsT { s with size := x } := (rfl)
@[simp] theorem fsT_get_got (s : Tkr) : (fsT s).lookup ("_got" : Str) = some (.tup (s.got)) := (rfl)
@[simp] theorem fsT_put_got (s : Tkr) (x : List D) : putD ("_got" : Str) (.tup x) (fsT s) = fsT { s with got := x } := (rfl)
@[simp] theorem fsT_get_number (s : Tkr) : (fsT s).lookup ("_number" : Str) = some (.int (s.number)) := (rfl)
@[simp] theorem fsT_put_number (s : Tkr) (x : Int) : putD ("_number" : Str) (.int x) (fsT s) = fsT { s with number := x } := (rfl)
@[simp] theorem fsT_get_last (s : Tkr) : (fsT s).lookup ("_last" : Str) = some (.tup (s.last)) := (rfl)
@[simp] theorem fsT_put_last (s : Tkr) (x : List D) : putD ("_last" : Str) (.tup x) (fsT s) = fsT { s with last := x } := (rfl)
@[simp] theorem fsT_get_count (s : Tkr) : (fsT s).lookup ("_count" : Str) = some (.int (s.count)) := (rfl)
@[simp] theorem fsT_put_count (s : Tkr) (x : Int) : putD ("_count" : Str) (.int x) (fsT s) = fsT { s with count := x } := (rfl)
@[simp] theorem fsT_get_ticks (s : Tkr) : (fsT s).lookup ("_ticks" : Str) = some (.int (s.ticks)) := (rfl)
@[simp] theorem fsT_put_ticks (s : Tkr) (x : Int) : putD ("_ticks" : Str) (.int x) (fsT s) = fsT { s with ticks := x } := (rfl)
@[simp] theorem fsT_no_messages (s : Tkr) : (fsT s).lookup ("messages" : Str) = none := (rfl)
@[simp] theorem fsT_no_refused (s : Tkr) : (fsT s).lookup ("refused" : Str) = none := (rfl)
@[simp] theorem fsT_no_leave (s : Tkr) : (fsT s).lookup ("_leave" : Str) = none := (rfl)
@[simp] theorem fsT_no_hear (s : Tkr) : (fsT s).lookup ("hear" : Str) = none := (rfl)
@[simp] theorem fsT_no_hear_next (s : Tkr) : (fsT s).lookup ("_hear_next" : Str) = none := (rfl)
@[simp] theorem fsT_no_tick (s : Tkr) : (fsT s).lookup ("tick" : Str) = none := (rfl)
@[simp] theorem fsT_new_room (x0 : D) : putD ("_room" : Str) x0 [] = [(("_room" : Str), x0)] := (rfl)
@[simp] theorem fsT_new_block (x0 x1 : D) : putD ("_block" : Str) x1 [(("_room" : Str), x0)] = [(("_room" : Str), x0), (("_block" : Str), x1)] := (rfl)
@[simp] theorem fsT_new_gap (x0 x1 x2 : D) : putD ("_gap" : Str) x2 [(("_room" : Str), x0), (("_block" : Str), x1)] = [(("_room" : Str), x0), (("_block" : Str), x1), (("_gap" : Str), x2)] := (rfl)
@[simp] theorem fsT_new_whole (x0 x1 x2 x3 : D) : putD ("_whole" : Str) x3 [(("_room" : Str), x0), (("_block" : Str), x1), (("_gap" : Str), x2)] = [(("_room" : Str), x0), (("_block" : Str), x1), (("_gap" : Str), x2), (("_whole" : Str), x3)] := (rfl)
@[simp] theorem fsT_new_refused (x0 x1 x2 x3 x4 : D) : putD ("_refused" : Str) x4 [(("_room" : Str), x0), (("_block" : Str), x1), (("_gap" : Str), x2), (("_whole" : Str), x3)] = [(("_room" : Str), x0), (("_block" : Str), x1), (("_gap" : Str), x2), (("_whole" : Str), x3), (("_refused" : Str), x4)] := (rfl)
@[simp] theorem fsT_new_size (x0 x1 x2 x3 x4 x5 : D) : putD ("_size" : Str) x5 [(("_room" : Str), x0), (("_block" : Str), x1), (("_gap" : Str), x2), (("_whole" : Str), x3), (("_refused" : Str), x4)] = [(("_room" : Str), x0), (("_block" : Str), x1), (("_gap" : Str), x2), (("_whole" : Str), x3), (("_refused" : Str), x4), (("_size" : Str), x5)] := (rfl)
@[simp] theorem fsT_new_got (x0 x1 x2 x3 x4 x5 x6 : D) : putD ("_got" : Str) x6 [(("_room" : Str), x0), (("_block" : Str), x1), (("_gap" : Str), x2), (("_whole" : Str), x3), (("_refused" : Str), x4), (("_size" : Str), x5)] = [(("_room" : Str), x0), (("_block" : Str), x1), (("_gap" : Str), x2), (("_whole" : Str), x3), (("_refused" : Str), x4), (("_size" : Str), x5), (("_got" : Str), x6)] := (rfl)
@[simp] theorem fsT_new_number (x0 x1 x2 x3 x4 x5 x6 x7 : D) : putD ("_number" : Str) x7 [(("_room" : Str), x0), (("_block" : Str), x1), (("_gap" : Str), x2), (("_whole" : Str), x3), (("_refused" : Str), x4), (("_size" : Str), x5), (("_got" : Str), x6)] = [(("_room" : Str), x0), (("_block" : Str), x1), (("_gap" : Str), x2), (("_whole" : Str), x3), (("_refused" : Str), x4), (("_size" : Str), x5), (("_got" : Str), x6), (("_number" : Str), x7)] := (rfl)
@[simp] theorem fsT_new_last (x0 x1 x2 x3 x4 x5 x6 x7 x8 : D) : putD ("_last" : Str) x8 [(("_room" : Str), x0), (("_block" : Str), x1), (("_gap" : Str), x2), (("_whole" : Str), x3), (("_refused" : Str), x4), (("_size" : Str), x5), (("_got" : Str), x6), (("_number" : Str), x7)] = [(("_room" : Str), x0), (("_block" : Str), x1), (("_gap" : Str), x2), (("_whole" : Str), x3), (("_refused" : Str), x4), (("_size" : Str), x5), (("_got" : Str), x6), (("_number" : Str), x7), (("_last" : Str), x8)] := (rfl)
@[simp] theorem fsT_new_count (x0 x1 x2 x3 x4 x5 x6 x7 x8 x9 : D) : putD ("_count" : Str) x9 [(("_room" : Str), x0), (("_block" : Str), x1), (("_gap" : Str), x2), (("_whole" : Str), x3), (("_refused" : Str), x4), (("_size" : Str), x5), (("_got" : Str), x6), (("_number" : Str), x7), (("_last" : Str), x8)] = [(("_room" : Str), x0), (("_block" : Str), x1), (("_gap" : Str), x2), (("_whole" : Str), x3), (("_refused" : Str), x4), (("_size" : Str), x5), (("_got" : Str), x6), (("_number" : Str), x7), (("_last" : Str), x8), (("_count" : Str), x9)] := (rfl)
@[simp] theorem fsT_new_ticks (x0 x1 x2 x3 x4 x5 x6 x7 x8 x9 x10 : D) : putD ("_ticks" : Str) x10 [(("_room" : Str), x0), (("_block" : Str), x1), (("_gap" : Str), x2), (("_whole" : Str), x3), (("_refused" : Str), x4), (("_size" : Str), x5), (("_got" : Str), x6), (("_number" : Str), x7), (("_last" : Str), x8), (("_count" : Str), x9)] = [(("_room" : Str), x0), (("_block" : Str), x1), (("_gap" : Str), x2), (("_whole" : Str), x3), (("_refused" : Str), x4), (("_size" : Str), x5), (("_got" : Str), x6), (("_number" : Str), x7), (("_last" : Str), x8), (("_count" : Str), x9), (("_ticks" : Str), x10)] := (rfl)

/-! ### the sender -/
def dataS (s : Snd) : D := if s.st.isGo = false ∨ 0 < s.rest then .non else if s.begun = false ∨ s.may ≠ 0 then s.left.headD .non else .non
theorem S_state_ok (n i : Nat) (s : Snd) (o : Obs) (h : insO o "LongSender" (.obj i) = some (fsS s)) : Fc (n + 1) "LongSender.state" [.obj i] o = .ok (.str s.st.s) o := by
  rw [r_LongSender_state]
  simp [m_LongSender_state, h]
theorem S_data_ok (n i : Nat) (s : Snd) (o : Obs) (h : insO o "LongSender" (.obj i) = some (fsS s)) (hl : s.left ≠ []) : Fc (n + 1) "LongSender.data" [.obj i] o = .ok (dataS s) o := by
  rw [r_LongSender_data]
  obtain ⟨left, long, begun, may, gap, rest, ticks, waits, st⟩ := s
  cases left with
  | nil => exact absurd rfl hl
  | cons d ds =>
    cases h1 : st.isGo
    · simp [m_LongSender_data, h, dataS, h1]
    · by_cases h2 : 0 < rest
      · simp [m_LongSender_data, h, dataS, h1, h2]
      · cases begun <;> by_cases h3 : may = 0 <;> simp [m_LongSender_data, h, dataS, h1, h2, h3]
/-- .. behind a sending -/
def sentS (s : Snd) : Snd := { s with left := s.left.tail, ticks := 0, rest := if s.begun then s.gap else 0, may := s.may - (if s.begun && decide (0 < s.may) then 1 else 0), begun := true, st := if s.left.tail.isEmpty then .dn else s.st }
theorem S_sent_ok (n i : Nat) (s : Snd) (o : Obs) (h : insO o "LongSender" (.obj i) = some (fsS s)) (hl : s.left ≠ []) (hd : cmpD .Is (dataS s) .non = some false) :
    Fc (n + 2) "LongSender.sent" [.obj i] o = .ok .non (setIns o "LongSender" (.obj i) (fsS (sentS s))) := by
  rw [r_LongSender_sent]
  have e1 := S_data_ok n i s o h hl
  have hs := insO_set h
  have hss := setIns_set o "LongSender" i
  obtain ⟨left, long, begun, may, gap, rest, ticks, waits, st⟩ := s
  cases left with
  | nil => exact absurd rfl hl
  | cons d ds =>
    cases begun with
    | false => cases ds <;> simp [m_LongSender_sent, h, e1, hd, hs, hss, sentS]
    | true =>
      by_cases h1 : 0 < may <;> cases ds <;> simp [m_LongSender_sent, h, e1, hd, hs, hss, sentS, h1]
/-- .. behind a tick -/
def tickS (s : Snd) : Snd := if s.st.isGo = false ∨ s.begun = false then s else
  let s := { s with rest := if 0 < s.rest - 1 then s.rest - 1 else 0 }
  if s.may = 0 then { s with ticks := s.ticks + 1, st := if 20 < s.ticks + 1 then .rf else s.st } else s
theorem S_tick_ok (n i : Nat) (s : Snd) (o : Obs) (h : insO o "LongSender" (.obj i) = some (fsS s)) : Fc (n + 1) "LongSender.tick" [.obj i] o = .ok .non (setIns o "LongSender" (.obj i) (fsS (tickS s))) := by
  rw [r_LongSender_tick]
  have hs := insO_set h
  have hss := setIns_set o "LongSender" i
  have h0 := setIns_self h
  obtain ⟨left, long, begun, may, gap, rest, ticks, waits, st⟩ := s
  have em : biD "max" [.int 0, .int (rest - 1)] = some (.int (if 0 < rest - 1 then rest - 1 else 0)) := rfl
  cases h1 : st.isGo
  · simp [m_LongSender_tick, h, h1, tickS, h0]
  · cases begun with
    | false => simp [m_LongSender_tick, h, h1, tickS, h0]
    | true =>
      by_cases h2 : may = 0
      · by_cases h3 : 20 < ticks + 1 <;> simp [m_LongSender_tick, em, h, h1, h2, h3, hs, hss, tickS]
      · simp [m_LongSender_tick, em, h, h1, h2, hs, hss, tickS]
/-- .. behind a flow -/
def flowS (s : Snd) (w b g : Int) : Snd := if s.st.isGo = false ∨ ¬ (s.begun = true ∧ s.may = 0 ∧ s.long = true) then s else
  if w = 2 then { s with ticks := 0, st := .rf } else if w = 1 then { s with ticks := 0, waits := s.waits + 1, st := if 4 < s.waits + 1 then .rf else .go }
  else { s with ticks := 0, waits := 0, gap := g, rest := 0, may := if 0 < b then b else -1 }
theorem S_hear_ok (n i : Nat) (s : Snd) (o : Obs) {w b g : Int} (h : insO o "LongSender" (.obj i) = some (fsS s)) (w0 : 0 ≤ w) (w2 : w < 3) (b0 : 0 ≤ b) (b1 : b < 256) (g0 : 0 ≤ g) (g1 : g < 256) :
    Fc (n + 3) "LongSender.hear" [.obj i, .tup [.int (48 + w), .int b, .int g]] o = .ok .non (setIns o "LongSender" (.obj i) (fsS (flowS s w b g))) := by
  rw [r_LongSender_hear]
  have hB : Bs [.int (48 + w), .int b, .int g] := fun d hd => by
    simp only [List.mem_cons, List.not_mem_nil, or_false] at hd
    rcases hd with rfl | rfl | rfl
    · exact ⟨_, rfl, by omega, by omega⟩
    · exact ⟨_, rfl, b0, b1⟩
    · exact ⟨_, rfl, g0, g1⟩
  have e1 := read_data_ok n [.int (48 + w), .int b, .int g] o hB (by show 3 < 1000; omega)
  have e2 : readP [.int (48 + w), .int b, .int g] = .tup [.str "flow", .int w, .int b, .int g] := by
    have a1 : (48 + w) / 16 = 3 := by omega
    have a2 : (48 + w) % 16 = w := by omega
    simp [readP, iD, a1, a2, w2]
  rw [e2] at e1
  clear e2 hB
  obtain ⟨z, hz⟩ : ∃ z, 48 + w = z := ⟨_, rfl⟩
  rw [hz] at e1 ⊢
  clear hz
  have e3 : cmpD .NotEq (.str ("flow" : Str)) (.str ("flow" : Str)) = some false := by decide +kernel
  have hs := insO_set h
  have hss := setIns_set o "LongSender" i
  have h0 := setIns_self h
  obtain ⟨left, long, begun, may, gap, rest, ticks, waits, st⟩ := s
  by_cases h2 : may = 0
  · subst h2
    cases h1 : st.isGo
    · cases begun <;> simp [m_LongSender_hear, h, h1, flowS, h0, e1]
    · cases begun with
      | false => simp [m_LongSender_hear, h, h1, flowS, h0, e1, e3]
      | true =>
        cases long with
        | false => simp [m_LongSender_hear, h, h1, flowS, h0, e1, e3]
        | true =>
          by_cases k2 : w = 2
          · simp [m_LongSender_hear, h, h1, k2, flowS, hs, hss, e1, e3]
          · by_cases k1 : w = 1
            · by_cases k3 : 4 < waits + 1 <;> simp [m_LongSender_hear, h, h1, k1, k3, flowS, hs, hss, e1, e3]
            · by_cases k3 : 0 < b <;> simp [m_LongSender_hear, h, h1, k1, k2, k3, flowS, hs, hss, e1, e3]
  · cases h1 : st.isGo
    · cases begun <;> simp [m_LongSender_hear, h, h1, h2, flowS, h0, e1]
    · cases begun <;> simp [m_LongSender_hear, h, h1, h2, flowS, h0, e1, e3]
/-- a new one -/
def newS (ds : List D) : Snd := ⟨datasP ds, decide (7 < (ds.length : Int)), false, 0, 0, 0, 0, 0, .go⟩
theorem S_init_ok (n i : Nat) (ds : List D) (o : Obs) (h : insO o "LongSender" (.obj i) = some []) (hl : ds.length < 10000) :
    Fc (n + 3) "LongSender.__init__" [.obj i, .tup ds] o = .ok .non (setIns o "LongSender" (.obj i) (fsS (newS ds))) := by
  rw [r_LongSender___init__]
  have e1 := fun o => datas_of_ok n ds o hl
  have hs := insO_set h
  have hss := setIns_set o "LongSender" i
  simp [m_LongSender___init__, h, e1, hs, hss]
  rfl

end Mp

set_option Elab.async false
set_option linter.all false
set_option maxRecDepth 100000
namespace Mp
open PySem PySem.Spec PyProof.Rows L2
/-! ### the taker -/
abbrev tkC : Str := "LongTaker"
def flD (w b g : Int) : D := .tup [.int (48 + w), .int b, .int g]
def isN : D → Bool | .non => true | _ => false
def leaveT (s : Tkr) : Tkr := { s with refused := s.refused + (if isN s.size then 0 else 1), size := .non }
def SzOk (s : Tkr) : Prop := s.size = .non ∨ ∃ m, s.size = .int m
theorem T_messages_ok (n i : Nat) (s : Tkr) (ws : List D) (o : Obs) (h : insO o "LongTaker" (.obj i) = some (fsT s)) (hw : lsO o (.obj s.whole) = some ws) : Fc (n + 1) "LongTaker.messages" [.obj i] o = .ok (.tup ws) o := by
  rw [r_LongTaker_messages]
  simp [m_LongTaker_messages, h, hw]
theorem T_refused_ok (n i : Nat) (s : Tkr) (o : Obs) (h : insO o "LongTaker" (.obj i) = some (fsT s)) : Fc (n + 1) "LongTaker.refused" [.obj i] o = .ok (.int s.refused) o := by
  rw [r_LongTaker_refused]
  simp [m_LongTaker_refused, h]
theorem T_leave_ok (n i : Nat) (s : Tkr) (o : Obs) (h : insO o "LongTaker" (.obj i) = some (fsT s)) (hz : SzOk s) :
    Fc (n + 1) "LongTaker._leave" [.obj i] o = .ok .non (setIns o "LongTaker" (.obj i) (fsT (leaveT s))) := by
  rw [r_LongTaker__leave]
  have hs := insO_set h
  have hss := setIns_set o "LongTaker" i
  obtain ⟨room, block, gap, whole, refused, size, got, number, last, count, ticks⟩ := s
  rcases hz with hz | ⟨m, hz⟩
  · simp only at hz; subst hz
    simp [m_LongTaker__leave, h, hs, hss, leaveT, isN]
  · simp only at hz; subst hz
    simp [m_LongTaker__leave, h, hs, hss, leaveT, isN]
def tickT (s : Tkr) : Tkr := if isN s.size = false ∧ 20 + s.gap < s.ticks + 1 then leaveT { s with ticks := s.ticks + 1 } else { s with ticks := s.ticks + 1 }
theorem T_tick_ok (n i : Nat) (s : Tkr) (o : Obs) (h : insO o "LongTaker" (.obj i) = some (fsT s)) (hz : SzOk s) :
    Fc (n + 2) "LongTaker.tick" [.obj i] o = .ok .non (setIns o "LongTaker" (.obj i) (fsT (tickT s))) := by
  rw [r_LongTaker_tick]
  have hs := insO_set h
  have hss := setIns_set o "LongTaker" i
  have hl := T_leave_ok n i { s with ticks := s.ticks + 1 } (setIns o "LongTaker" (.obj i) (fsT { s with ticks := s.ticks + 1 })) (hs _) hz
  obtain ⟨room, block, gap, whole, refused, size, got, number, last, count, ticks⟩ := s
  rcases hz with hz | ⟨m, hz⟩
  · simp only at hz; subst hz
    simp [m_LongTaker_tick, h, hs, hss, tickT, isN]
  · simp only at hz; subst hz
    by_cases h1 : 20 + gap < ticks + 1
    · simp [m_LongTaker_tick, h, hs, hss, tickT, isN, h1, hl]
    · simp [m_LongTaker_tick, h, hs, hss, tickT, isN, h1]
/-! ### a next frame -/
theorem T_next_none (n i : Nat) (s : Tkr) (k : Int) (p : List D) (o : Obs) (h : insO o "LongTaker" (.obj i) = some (fsT s)) (hz : s.size = .non) :
    Fc (n + 1) "LongTaker._hear_next" [.obj i, .int k, .tup p] o = .ok .non o := by
  rw [r_LongTaker__hear_next]
  simp [m_LongTaker__hear_next, h, hz]
theorem eqv_Bs : ∀ {a b : List D}, Bs a → Bs b → (eqvDs a b = true ↔ a = b)
  | [], [], _, _ => by simp [eqvDs]
  | [], _ :: _, _, _ => by simp [eqvDs]
  | _ :: _, [], _, _ => by simp [eqvDs]
  | x :: a, y :: b, ha, hb => by
    obtain ⟨i, rfl, _, _⟩ := ha x List.mem_cons_self
    obtain ⟨j, rfl, _, _⟩ := hb y List.mem_cons_self
    have ih := eqv_Bs (fun d hd => ha d (List.mem_cons_of_mem _ hd)) (fun d hd => hb d (List.mem_cons_of_mem _ hd)) (a := a) (b := b)
    simp only [eqvDs, eqvD, Bool.and_eq_true, beq_iff_eq, ih, List.cons.injEq, D.int.injEq]
theorem T_next_dup (n i : Nat) (s : Tkr) (k m : Int) (p : List D) (o : Obs) (h : insO o "LongTaker" (.obj i) = some (fsT s)) (hz : s.size = .int m) (hk : k = s.number.fmod 16) (hp : p = s.last) (hn : 0 < s.number) (hB : Bs p) (hl : p.length < 1000) :
    Fc (n + 2) "LongTaker._hear_next" [.obj i, .int k, .tup p] o = .ok (if s.block ≠ 0 ∧ s.count = 0 then flD 0 s.block s.gap else .non) o := by
  rw [r_LongTaker__hear_next]
  subst hp
  have e := eq_okD (hB.ok (by omega)) (hB.ok (by omega))
  have e1 : eqvD (.tup s.last) (.tup s.last) = true := by
    show eqvDs s.last s.last = true
    exact (eqv_Bs hB hB).mpr rfl
  rw [e1] at e
  have f := flow_data_ok n 0 s.block s.gap o
  by_cases h1 : s.block = 0
  · simp [m_LongTaker__hear_next, h, hz, hk, hn, e, h1]
  · have hb : (s.block != 0) = true := by simpa using h1
    by_cases h2 : s.count = 0
    · simp [m_LongTaker__hear_next, h, hz, hk, hn, e, h1, hb, h2, f, flD]
    · simp [m_LongTaker__hear_next, h, hz, hk, hn, e, h1, hb, h2]
theorem T_next_bad (n i : Nat) (s : Tkr) (k m : Int) (p : List D) (o : Obs) (h : insO o "LongTaker" (.obj i) = some (fsT s)) (hz : s.size = .int m) (h1 : k ≠ s.number.fmod 16) (h2 : k ≠ (s.number + 1).fmod 16) :
    Fc (n + 2) "LongTaker._hear_next" [.obj i, .int k, .tup p] o = .ok .non (setIns o "LongTaker" (.obj i) (fsT (leaveT s))) := by
  rw [r_LongTaker__hear_next]
  have hl := T_leave_ok n i s o h (.inr ⟨m, hz⟩)
  have em : biD "min" [.int 7, .int (m - s.got.length)] = some (.int (if m - s.got.length < 7 then m - s.got.length else 7)) := rfl
  simp [m_LongTaker__hear_next, h, hz, h1, h2, em, hl]
/-- .. one that is due -/
def dueT (s : Tkr) (p : List D) : Tkr := { s with got := s.got ++ p, last := p, number := s.number + 1, count := s.count + 1, ticks := 0 }
theorem T_next_more (n i : Nat) (s : Tkr) (k m : Int) (p : List D) (o : Obs) (h : insO o "LongTaker" (.obj i) = some (fsT s)) (hz : s.size = .int m) (h1 : k ≠ s.number.fmod 16) (h2 : k = (s.number + 1).fmod 16)
    (hl : s.got.length + p.length < 1000) (hw : (p.length : Int) = if m - s.got.length < 7 then m - s.got.length else 7) (hm : (s.got.length : Int) + p.length ≠ m) :
    Fc (n + 2) "LongTaker._hear_next" [.obj i, .int k, .tup p] o = if s.count + 1 = s.block then .ok (flD 0 s.block s.gap) (setIns o "LongTaker" (.obj i) (fsT { dueT s p with count := 0 })) else .ok .non (setIns o "LongTaker" (.obj i) (fsT (dueT s p))) := by
  rw [r_LongTaker__hear_next]
  have hs := insO_set h
  have hss := setIns_set o "LongTaker" i
  have em : biD "min" [.int 7, .int (m - s.got.length)] = some (.int (if m - s.got.length < 7 then m - s.got.length else 7)) := rfl
  rw [← hw] at em
  have f := fun o => flow_data_ok n 0 s.block s.gap o
  have hl' : s.got.length + p.length ≤ 16777216 := by omega
  by_cases h3 : s.count + 1 = s.block
  · obtain ⟨room, block, gap, whole, refused, size, got, number, last, count, ticks⟩ := s
    simp only at hz h3 hm; subst hz; subst h3
    simp [m_LongTaker__hear_next, h, h1, ← h2, em, hs, hss, hl', hm, f, flD, dueT]
  · obtain ⟨room, block, gap, whole, refused, size, got, number, last, count, ticks⟩ := s
    simp only at hz h3 hm; subst hz
    simp [m_LongTaker__hear_next, h, h1, ← h2, em, hs, hss, hl', hm, h3, dueT]
theorem T_next_full (n i : Nat) (s : Tkr) (k m : Int) (p ws : List D) (o : Obs) (h : insO o "LongTaker" (.obj i) = some (fsT s)) (hz : s.size = .int m) (h1 : k ≠ s.number.fmod 16) (h2 : k = (s.number + 1).fmod 16)
    (hl : s.got.length + p.length < 1000) (hw : (p.length : Int) = if m - s.got.length < 7 then m - s.got.length else 7) (hm : (s.got.length : Int) + p.length = m) (hls : lsO o (.obj s.whole) = some ws) (hwl : ws.length < 1000) :
    Fc (n + 2) "LongTaker._hear_next" [.obj i, .int k, .tup p] o = .ok .non (setO (setIns o "LongTaker" (.obj i) (fsT { dueT s p with size := .non })) (.obj s.whole) (ws ++ [.tup (s.got ++ p)])) := by
  rw [r_LongTaker__hear_next]
  have hs := insO_set h
  have hss := setIns_set o "LongTaker" i
  have em : biD "min" [.int 7, .int (m - s.got.length)] = some (.int (if m - s.got.length < 7 then m - s.got.length else 7)) := rfl
  rw [← hw] at em
  have hl' : s.got.length + p.length ≤ 16777216 := by omega
  have ne := ins_ne_ls h hls
  have hls2 := fun fs => lsO_setIns (c := "LongTaker") (fs := fs) ne hls
  have ap := fun fs => omD_append (x := .tup (s.got ++ p)) (hls2 fs) (by omega)
  have hi := fun fs ds => insO_setO (c := "LongTaker") (o := o) (fs := fs) (ds := ds) ne (hs fs)
  obtain ⟨room, block, gap, whole, refused, size, got, number, last, count, ticks⟩ := s
  simp only at hz hm; subst hz; subst hm
  simp [m_LongTaker__hear_next, h, h1, ← h2, em, hs, hss, hl', dueT, hls2, ap, hi, fun (o : Obs) fs ds => setIns_setO (o := o) (c := "LongTaker") (fs := fs) (ds := ds) ne]

end Mp

set_option Elab.async false
set_option linter.all false
set_option maxRecDepth 100000
namespace Mp
open PySem PySem.Spec PyProof.Rows L2
/-! ### what a taker does with data -/
def repT (s : Tkr) (m : Int) (p : List D) : Prop := s.size = .int m ∧ s.got = p ∧ s.number = 0
theorem plain_rep {x : D} (hx : plainD x = true ∧ depD x = 0) {p : List D} (hB : Bs p) (hl : p.length < 1000) (k : Int) : okD (.tup [x, .tup p, .int k]) = true := by
  have a := plain_of_Bs hB (by omega)
  have t := tupP (ds := [x, .tup p, .int k]) (k := 1) (by
    intro e he
    simp only [List.mem_cons, List.not_mem_nil, or_false] at he
    rcases he with rfl | rfl | rfl
    · exact ⟨hx.1, by omega⟩
    · exact a
    · exact ⟨rfl, by simp [depD]⟩) (by show 3 < 16777216; omega)
  unfold okD
  rw [Bool.and_eq_true, decide_eq_true_eq]
  exact ⟨t.1, by omega⟩
theorem eq_rep {s : Tkr} (hz : SzOk s) (hg : Bs s.got) (hgl : s.got.length < 1000) {m : Int} {p : List D} (hB : Bs p) (hl : p.length < 1000) :
    ∃ b : Bool, cmpD .Eq (.tup [s.size, .tup s.got, .int s.number]) (.tup [.int m, .tup p, .int 0]) = some b ∧ (b = true ↔ repT s m p) := by
  have o1 := plain_rep (x := s.size) (by rcases hz with h | ⟨m, h⟩ <;> rw [h] <;> exact ⟨rfl, rfl⟩) hg hgl s.number
  have o2 := plain_rep (x := .int m) ⟨rfl, rfl⟩ hB hl 0
  refine ⟨_, eq_okD o1 o2, ?_⟩
  have e := eqv_Bs hg hB
  rcases hz with h | ⟨m', h⟩
  · simp [repT, h, eqvD, eqvDs]
  · simp [repT, h, eqvD, eqvDs, e]
theorem t_alone (n i : Nat) (s : Tkr) (p ws : List D) (o : Obs) (h : insO o "LongTaker" (.obj i) = some (fsT s)) (hz : SzOk s) (hB : Bs p) (hl : p.length < 8) (hls : lsO o (.obj s.whole) = some ws) (hwl : ws.length < 1000) :
    Fc (n + 3) "LongTaker.hear" [.obj i, .tup (.int p.length :: p)] o = .ok .non (setO (setIns o "LongTaker" (.obj i) (fsT (leaveT s))) (.obj s.whole) (ws ++ [.tup p])) := by
  rw [r_LongTaker_hear]
  have e1 := read_data_ok n (.int p.length :: p) o (hB.cons (by omega) (by omega)) (by simp; omega)
  have e2 : readP (.int p.length :: p) = .tup [.str "alone", .tup p] := rd_alone hl
  rw [e2] at e1
  have c1 : cmpD .Eq (.str ("alone" : Str)) (.str ("flow" : Str)) = some false := by decide +kernel
  have c2 : cmpD .Eq (.str ("alone" : Str)) (.str ("next" : Str)) = some false := by decide +kernel
  have c3 : cmpD .Eq (.str ("alone" : Str)) (.str ("first" : Str)) = some false := by decide +kernel
  have c4 : cmpD .Eq (.str ("alone" : Str)) (.str ("alone" : Str)) = some true := by decide +kernel
  have hlv := T_leave_ok (n + 1) i s o h hz
  have hs := insO_set h (fsT (leaveT s))
  have ne := ins_ne_ls h hls
  have hls2 := lsO_setIns (c := "LongTaker") (fs := fsT (leaveT s)) ne hls
  have ap := omD_append (x := .tup p) hls2 (by omega)
  have hwh : (leaveT s).whole = s.whole := rfl
  simp [m_LongTaker_hear, h, e1, c1, c2, c3, c4, hlv, hs, hwh, hls2, ap]
def newT (s : Tkr) (m : Int) (p : List D) : Tkr := { leaveT s with size := .int m, got := p, number := 0, last := p, count := 0, ticks := 0 }
theorem t_first_rep (n i : Nat) (s : Tkr) (ds : List D) (o : Obs) (h : insO o "LongTaker" (.obj i) = some (fsT s)) (hz : SzOk s) (hg : Bs s.got) (hgl : s.got.length < 1000) (hB : Bs ds) (hl : 8 ≤ ds.length) (hl2 : ds.length < 200) (hr : repT s ds.length (ds.take 6)) :
    Fc (n + 3) "LongTaker.hear" [.obj i, headP ds] o = .ok (flD 0 s.block s.gap) o := by
  rw [r_LongTaker_hear]
  obtain ⟨x, hx, xB, x1, x2⟩ := datasP_mem hB hl2 (headP ds) (by unfold datasP; rw [if_neg (by omega)]; exact List.mem_cons_self)
  have e1 := read_data_ok n x o xB (by omega)
  have e2 := rd_head hl hl2
  rw [hx] at e2 ⊢
  rw [show readP x = _ from e2] at e1
  have c1 : cmpD .Eq (.str ("first" : Str)) (.str ("flow" : Str)) = some false := by decide +kernel
  have c2 : cmpD .Eq (.str ("first" : Str)) (.str ("next" : Str)) = some false := by decide +kernel
  have c3 : cmpD .Eq (.str ("first" : Str)) (.str ("first" : Str)) = some true := by decide +kernel
  obtain ⟨b, hb, hbr⟩ := eq_rep hz hg hgl (m := ds.length) (hB.take 6) (by simp; omega)
  rw [hbr.mpr hr] at hb
  have f := flow_data_ok (n + 1) 0 s.block s.gap o
  simp [m_LongTaker_hear, h, e1, c1, c2, c3, hb, f, flD]
theorem t_first_new (n i : Nat) (s : Tkr) (ds : List D) (o : Obs) (h : insO o "LongTaker" (.obj i) = some (fsT s)) (hz : SzOk s) (hg : Bs s.got) (hgl : s.got.length < 1000) (hB : Bs ds) (hl : 8 ≤ ds.length) (hl2 : ds.length < 200) (hr : ¬ repT s ds.length (ds.take 6)) :
    Fc (n + 3) "LongTaker.hear" [.obj i, headP ds] o = if s.room < ds.length then .ok (flD 2 0 0) (setIns o "LongTaker" (.obj i) (fsT { leaveT s with refused := (leaveT s).refused + 1 }))
      else .ok (flD 0 s.block s.gap) (setIns o "LongTaker" (.obj i) (fsT (newT s ds.length (ds.take 6)))) := by
  rw [r_LongTaker_hear]
  obtain ⟨x, hx, xB, x1, x2⟩ := datasP_mem hB hl2 (headP ds) (by unfold datasP; rw [if_neg (by omega)]; exact List.mem_cons_self)
  have e1 := read_data_ok n x o xB (by omega)
  have e2 := rd_head hl hl2
  rw [hx] at e2 ⊢
  rw [show readP x = _ from e2] at e1
  have c1 : cmpD .Eq (.str ("first" : Str)) (.str ("flow" : Str)) = some false := by decide +kernel
  have c2 : cmpD .Eq (.str ("first" : Str)) (.str ("next" : Str)) = some false := by decide +kernel
  have c3 : cmpD .Eq (.str ("first" : Str)) (.str ("first" : Str)) = some true := by decide +kernel
  have c4 : cmpD .Eq (.str ("first" : Str)) (.str ("alone" : Str)) = some false := by decide +kernel
  obtain ⟨b, hb, hbr⟩ := eq_rep hz hg hgl (m := ds.length) (hB.take 6) (by simp; omega)
  rw [show b = false from by cases b; rfl; exact absurd (hbr.mp rfl) hr] at hb
  have hlv := T_leave_ok (n + 1) i s o h hz
  have hs := insO_set h
  have hss := setIns_set o "LongTaker" i
  have hrm : (leaveT s).room = s.room := rfl
  by_cases hm : s.room < ds.length
  · have f := fun o => flow_data_ok (n + 1) 2 0 0 o
    simp [m_LongTaker_hear, h, e1, c1, c2, c3, c4, hb, hlv, hs, hss, hrm, hm, f, flD]
  · have f := fun o => flow_data_ok (n + 1) 0 s.block s.gap o
    have k1 : (leaveT s).block = s.block := rfl
    have k2 : (leaveT s).gap = s.gap := rfl
    simp [m_LongTaker_hear, h, e1, c1, c2, c3, c4, hb, hlv, hs, hss, hrm, hm, f, flD, newT, k1, k2]
theorem t_next (n i : Nat) (s : Tkr) (ds : List D) (k : Nat) (o : Obs) (r : D) (o' : Obs) (h : insO o "LongTaker" (.obj i) = some (fsT s)) (hB : Bs ds) (hl : 7 * (k + 1) ≤ ds.length) (hl2 : ds.length < 200)
    (hn : Fc (n + 2) "LongTaker._hear_next" [.obj i, .int (((k : Int) + 1) % 16), .tup ((ds.drop (7 * k + 6)).take 7)] o = .ok r o') :
    Fc (n + 3) "LongTaker.hear" [.obj i, partP ds (k + 1)] o = .ok r o' := by
  by_cases h8 : ds.length < 8
  · have : k = 0 := by omega
    have : ds.length = 7 := by omega
    subst k
    rw [r_LongTaker_hear]
    obtain ⟨x, hx, xB, x2⟩ : ∃ x, partP ds (0 + 1) = .tup x ∧ Bs x ∧ x.length ≤ 8 := ⟨_, rfl, ((hB.drop _).take 7).cons (by omega) (by omega), by simp; omega⟩
    have e1 := read_data_ok n x o xB (by omega)
    have e2 := rd_part hl
    rw [hx] at e2 ⊢
    rw [show readP x = _ from e2] at e1
    have c1 : cmpD .Eq (.str ("next" : Str)) (.str ("flow" : Str)) = some false := by decide +kernel
    have c2 : cmpD .Eq (.str ("next" : Str)) (.str ("next" : Str)) = some true := by decide +kernel
    simp at hn e1
    simp [m_LongTaker_hear, h, e1, c1, c2, hn]
  rw [r_LongTaker_hear]
  obtain ⟨x, hx, xB, x2⟩ : ∃ x, partP ds (k + 1) = .tup x ∧ Bs x ∧ x.length ≤ 8 := ⟨_, rfl, ((hB.drop _).take 7).cons (by omega) (by omega), by simp; omega⟩
  have e1 := read_data_ok n x o xB (by omega)
  have e2 := rd_part hl
  rw [hx] at e2 ⊢
  rw [show readP x = _ from e2] at e1
  have c1 : cmpD .Eq (.str ("next" : Str)) (.str ("flow" : Str)) = some false := by decide +kernel
  have c2 : cmpD .Eq (.str ("next" : Str)) (.str ("next" : Str)) = some true := by decide +kernel
  simp [m_LongTaker_hear, h, e1, c1, c2, hn]
/-- a new one -/
def newTk (room block gap : Int) (w : Nat) : Tkr := ⟨room, block, gap, w, 0, .non, [], 0, [], 0, 0⟩
theorem T_init_ok (n i : Nat) (room block gap : Int) (o : Obs) (h : insO o "LongTaker" (.obj i) = some []) :
    Fc (n + 1) "LongTaker.__init__" [.obj i, .int room, .int block, .int gap] o = .ok .non (setIns (o ++ [.ls []]) "LongTaker" (.obj i) (fsT (newTk room block gap o.length))) := by
  rw [r_LongTaker___init__]
  have hs := insO_set h
  have hss := setIns_set o "LongTaker" i
  have hi : i < o.length := (List.getElem?_eq_some_iff.mp (at_insO h)).1
  have ha : ∀ fs, setIns o "LongTaker" (.obj i) fs ++ [.ls []] = setIns (o ++ [.ls []]) "LongTaker" (.obj i) fs := fun fs => by
    show o.set i _ ++ _ = (o ++ _).set i _
    rw [List.set_append_left _ _ hi]
  have h2 : insO (o ++ [.ls []]) "LongTaker" (.obj i) = some [] := insO_at (by rw [List.getElem?_append_left hi]; exact at_insO h)
  have hs2 := insO_set h2
  have hss2 := setIns_set (o ++ [.ls []]) "LongTaker" i
  have hln : ∀ fs, (setIns o "LongTaker" (.obj i) fs).length = o.length := fun fs => List.length_set
  simp [m_LongTaker___init__, h, hs, hss, ha, hs2, hss2, hln]
  rfl

end Mp

set_option Elab.async false
set_option linter.all false
set_option maxRecDepth 100000
namespace Mp
open PySem PySem.Spec PyProof.Rows L2
/-! ### one turn of carried -/
def K3 (pre : Obs) (S : Snd) (T : Tkr) (ws : List D) : Obs := pre ++ [.ins "LongSender" (fsS S), .ins "LongTaker" (fsT T), .ls ws]
section
variable (pre : Obs) (S S' : Snd) (T T' : Tkr) (ws ws' : List D)
theorem K3_get (k : Nat) : (K3 pre S T ws)[pre.length + k]? = [Ob.ins "LongSender" (fsS S), .ins "LongTaker" (fsT T), .ls ws][k]? := by
  unfold K3; rw [List.getElem?_append_right (by omega)]; congr 1; omega
theorem K3_set (k : Nat) (x : Ob) : (K3 pre S T ws).set (pre.length + k) x = pre ++ [Ob.ins "LongSender" (fsS S), .ins "LongTaker" (fsT T), .ls ws].set k x := by
  unfold K3; rw [List.set_append_right _ _ (by omega)]; congr 2; omega
theorem K3_S : insO (K3 pre S T ws) "LongSender" (.obj pre.length) = some (fsS S) := insO_at (K3_get pre S T ws 0)
theorem K3_T : insO (K3 pre S T ws) "LongTaker" (.obj (pre.length + 1)) = some (fsT T) := insO_at (K3_get pre S T ws 1)
theorem K3_L : lsO (K3 pre S T ws) (.obj (pre.length + 2)) = some ws := lsO_at (K3_get pre S T ws 2)
theorem K3_setS : setIns (K3 pre S T ws) "LongSender" (.obj pre.length) (fsS S') = K3 pre S' T ws := K3_set pre S T ws 0 _
theorem K3_setT : setIns (K3 pre S T ws) "LongTaker" (.obj (pre.length + 1)) (fsT T') = K3 pre S T' ws := K3_set pre S T ws 1 _
theorem K3_setL : setO (K3 pre S T ws) (.obj (pre.length + 2)) ws' = K3 pre S T ws' := K3_set pre S T ws 2 _
end
theorem feq_int (x c : Int) : feqD (.int x) (.int c) = decide (c = x) := by
  show (x == c) = _
  by_cases h : x = c
  · subst h; rw [beq_self_eq_true, decide_eq_true rfl]
  · rw [beq_eq_false_iff_ne.mpr h, decide_eq_false fun e => h e.symm]
theorem in_ints (c : Int) : ∀ L : List Int, ((L.map D.int).any fun y => feqD y (.int c)) = decide (c ∈ L)
  | [] => rfl
  | x :: L => by
    rw [List.map_cons, List.any_cons, in_ints c L, feq_int]
    simp only [List.mem_cons, Bool.decide_or]
theorem flat_ints : ∀ L : List Int, (L.map D.int).all flatD = true
  | [] => rfl
  | x :: L => by rw [List.map_cons, List.all_cons, flat_ints L]; rfl
theorem inD_ints (c : Int) (L : List Int) : inD (.int c) (.tup (L.map .int)) = some (decide (c ∈ L)) := by
  show (if flatD (.int c) && (L.map D.int).all flatD then some ((L.map D.int).any fun y => feqD y (.int c)) else inDeep (.int c) (L.map .int)) = _
  rw [flat_ints, in_ints]; rfl
theorem notin_ints (c : Int) (L : List Int) : cmpD .NotIn (.int c) (.tup (L.map .int)) = some (!decide (c ∈ L)) := by
  show (inD _ _).map _ = _
  rw [inD_ints]; rfl
def cEnv (m : D) (room b g : Int) (L : List Int) (a : Nat) (t c : Int) (x y : Sl) : Env := [.v m, .v (.int room), .v (.int b), .v (.int g), .v (.tup (L.map .int)), .v (.obj a), .v (.obj (a + 1)), .v (.int t), .v (.int c), x, y]
section
variable {n : Nat} {m : D} {room b g : Int} {L : List Int} {pre : Obs} {S : Snd} {T : Tkr} {ws : List D} {t c : Int} {x y : Sl} {P : Pt}
theorem body_wait (hl : S.left ≠ []) (hd : dataS S = .non) (hz : SzOk T) (h : ∀ x y, P.ct (cEnv m room b g L pre.length (t + 1) c x y) (K3 pre (tickS S) (tickT T) ws)) :
    (denSs (Fc (n + 5)) Gl lawM w_carried_0 (cEnv m room b g L pre.length t c x y) (K3 pre S T ws)).wp P := by
  have e1 := S_data_ok (n + 4) _ _ _ (K3_S pre S T ws) hl
  have e2 := S_tick_ok (n + 4) _ _ _ (K3_S pre S T ws)
  rw [K3_setS] at e2
  have e3 := T_tick_ok (n + 3) _ _ _ (K3_T pre (tickS S) T ws) hz
  rw [K3_setT] at e3
  have k1 := K3_S pre S T ws
  have k2 := K3_T pre (tickS S) T ws
  rw [hd] at e1
  have h := h (.v .non) y
  unfold cEnv at h ⊢
  simp [w_carried_0, augD, e1, e2, e3, k1, k2]
  exact h
theorem body_lost {d : List D} (hl : S.left ≠ []) (hd : dataS S = .tup d) (hc : c ∈ L) (h : ∀ x y, P.nx (cEnv m room b g L pre.length t (c + 1) x y) (K3 pre (sentS S) T ws)) :
    (denSs (Fc (n + 5)) Gl lawM w_carried_0 (cEnv m room b g L pre.length t c x y) (K3 pre S T ws)).wp P := by
  have e1 := S_data_ok (n + 4) _ _ _ (K3_S pre S T ws) hl
  have e2 := S_sent_ok (n + 3) _ _ _ (K3_S pre S T ws) hl (by rw [hd]; simp)
  rw [K3_setS] at e2
  have k1 := K3_S pre S T ws
  have ni := notin_ints c L
  rw [hd] at e1
  have h := h (.v (.tup d)) (.v .non)
  unfold cEnv at h ⊢
  simp [w_carried_0, augD, e1, e2, k1, ni, hc]
  exact h
theorem body_none {d : List D} {T' : Tkr} {ws' : List D} (hl : S.left ≠ []) (hd : dataS S = .tup d) (hc : c ∉ L) (hh : Fc (n + 5) "LongTaker.hear" [.obj (pre.length + 1), .tup d] (K3 pre (sentS S) T ws) = .ok .non (K3 pre (sentS S) T' ws'))
    (h : ∀ x y, P.nx (cEnv m room b g L pre.length t (c + 1) x y) (K3 pre (sentS S) T' ws')) :
    (denSs (Fc (n + 5)) Gl lawM w_carried_0 (cEnv m room b g L pre.length t c x y) (K3 pre S T ws)).wp P := by
  have e1 := S_data_ok (n + 4) _ _ _ (K3_S pre S T ws) hl
  have e2 := S_sent_ok (n + 3) _ _ _ (K3_S pre S T ws) hl (by rw [hd]; simp)
  rw [K3_setS] at e2
  have k1 := K3_S pre S T ws
  have k2 := K3_T pre (sentS S) T ws
  have ni := notin_ints c L
  rw [hd] at e1
  have h := h (.v (.tup d)) (.v .non)
  unfold cEnv at h ⊢
  simp [w_carried_0, augD, e1, e2, k1, k2, ni, hc, hh]
  exact h
theorem body_flow {d : List D} {T' : Tkr} {ws' : List D} {w b' g' : Int} (hl : S.left ≠ []) (hd : dataS S = .tup d) (hc : c ∉ L) (hh : Fc (n + 5) "LongTaker.hear" [.obj (pre.length + 1), .tup d] (K3 pre (sentS S) T ws) = .ok (flD w b' g') (K3 pre (sentS S) T' ws'))
    (w0 : 0 ≤ w) (w2 : w < 3) (b0 : 0 ≤ b') (b1 : b' < 256) (g0 : 0 ≤ g') (g1 : g' < 256)
    (h : ∀ x y, P.nx (cEnv m room b g L pre.length t (c + 1 + 1) x y) (K3 pre (if c + 1 ∈ L then sentS S else flowS (sentS S) w b' g') T' ws')) :
    (denSs (Fc (n + 5)) Gl lawM w_carried_0 (cEnv m room b g L pre.length t c x y) (K3 pre S T ws)).wp P := by
  have e1 := S_data_ok (n + 4) _ _ _ (K3_S pre S T ws) hl
  have e2 := S_sent_ok (n + 3) _ _ _ (K3_S pre S T ws) hl (by rw [hd]; simp)
  rw [K3_setS] at e2
  have e3 := S_hear_ok (n + 2) _ _ _ (K3_S pre (sentS S) T' ws') w0 w2 b0 b1 g0 g1
  rw [K3_setS] at e3
  have k1 := K3_S pre S T ws
  have k2 := K3_T pre (sentS S) T ws
  have k3 := K3_S pre (sentS S) T' ws'
  have ni := notin_ints c L
  have ni2 := notin_ints (c + 1) L
  rw [hd] at e1
  have h := h (.v (.tup d)) (.v (flD w b' g'))
  unfold cEnv at h ⊢
  unfold flD at h hh
  by_cases hc2 : c + 1 ∈ L
  · simp [w_carried_0, augD, e1, e2, k1, k2, ni, hc, hh, ni2, hc2]
    simpa [hc2] using h
  · simp [w_carried_0, augD, e1, e2, k1, k2, ni, hc, hh, ni2, hc2, k3, e3]
    simpa [hc2] using h
end

end Mp

set_option Elab.async false
set_option linter.all false
set_option maxRecDepth 100000
namespace Mp
open PySem PySem.Spec PyProof.Rows L2
/-! ### the whole of carried -/
def seg (N b k : Nat) : List Bool := true :: (if 0 < b ∧ k / b * b = k ∧ k < N then [false] else [])
def rowE (N b : Nat) : List Bool := (true :: (if 0 < N then [false] else [])) ++ ((List.range N).map fun k => seg N b (k + 1)).flatten
theorem row_facts : ∀ N : Fin 9, ∀ b : Fin 4, 0 < N.val → (rowE N.val b.val)[0]? = some true ∧ (rowE N.val b.val)[1]? = some false ∧ (rowE N.val b.val).length = 2 + (N.val - 1) + (N.val - 1) / b.val + 1 := by decide +kernel
theorem row_at : ∀ N : Fin 9, ∀ b : Fin 4, ∀ k : Fin 9, k.val < N.val → (rowE N.val b.val)[2 + k.val + k.val / b.val]? = some true ∧ (k.val % b.val + 1 = b.val → k.val + 1 < N.val → (rowE N.val b.val)[2 + k.val + k.val / b.val + 1]? = some false) := by decide +kernel
theorem div_step : ∀ b : Fin 4, ∀ k : Fin 9, (k.val % b.val + 1 = b.val → (k.val + 1) / b.val = k.val / b.val + 1 ∧ (k.val + 1) % b.val = 0) ∧ (k.val % b.val + 1 ≠ b.val → (k.val + 1) / b.val = k.val / b.val ∧ (k.val + 1) % b.val = k.val % b.val + 1) ∧ (b.val ≠ 0 → k.val % b.val < b.val) := by decide +kernel
def IsFirst (L : List Int) (row : List Bool) (i : Nat) : Prop := i < row.length ∧ (i : Int) ∈ L ∧ ∀ k, k < i → (k : Int) ∉ L
def FinOk (L : List Int) (row : List Bool) (good : List D → St → Int → Prop) (ws : List D) (st : St) (t : Int) : Prop :=
  (∃ i, IsFirst L row i ∧ ws = [] ∧ (row[i]? = some false → st = .rf)) ∨ ((∀ i, i < row.length → (i : Int) ∉ L) ∧ good ws st t)
def DeadT (j : Nat) (T : Tkr) : Prop := T.size = .non ∨ (0 ≤ T.number ∧ T.number + 1 < j ∧ ∃ m, T.size = .int m)
theorem DeadT.sz {j : Nat} {T : Tkr} (h : DeadT j T) : SzOk T := by
  rcases h with h | ⟨_, _, h⟩
  · exact .inl h
  · exact .inr h
theorem DeadT.mono {j k : Nat} {T : Tkr} (h : DeadT j T) (q : j ≤ k) : DeadT k T := by
  rcases h with h | ⟨h1, h2, h⟩
  · exact .inl h
  · exact .inr ⟨h1, by omega, h⟩
theorem SzOk.tick {T : Tkr} (h : SzOk T) : SzOk (tickT T) := by
  unfold tickT; split
  · exact .inl rfl
  · exact h
theorem DeadT.tick {j : Nat} {T : Tkr} (h : DeadT j T) : DeadT j (tickT T) := by
  unfold tickT; split
  · exact .inl rfl
  · exact h
/-- how a course stands: how many turns are left at most, and all the rest -/
inductive CInv (ds : List D) (room : Int) (b g wi : Nat) (L : List Int) (row : List Bool) (good : List D → St → Int → Prop) : Nat → Snd → Tkr → List D → Int → Int → Prop
  | fin {S T ws t c} : S.st.isGo = false → SzOk T → T.whole = wi → FinOk L row good ws S.st t → CInv ds room b g wi L row good 0 S T ws t c
  | stuck {S T t c i} {m : Nat} : IsFirst L row i → S.st = .go → S.begun = true → S.may = 0 → S.left ≠ [] → S.ticks ≤ 20 → 22 - S.ticks ≤ (m : Int) → SzOk T → T.whole = wi → CInv ds room b g wi L row good m S T [] t c
  | out {long} {may gap r tk w t : Int} {T i} {c : Int} {j m : Nat} : 8 ≤ ds.length → IsFirst L row i → row[i]? = some true → 1 ≤ j → j ≤ ds.length / 7 → may ≠ 0 → 0 ≤ r → r ≤ 30 → 0 ≤ gap → gap ≤ 30 → DeadT j T → T.whole = wi → 32 * ((ds.length / 7 + 1 - j : Nat) : Int) + r + 30 ≤ (m : Int) →
      CInv ds room b g wi L row good m ⟨(datasP ds).drop j, long, true, may, gap, r, tk, w, .go⟩ T [] t c
  | sync {r tk w tt t rf : Int} {last : List D} {k m : Nat} : 8 ≤ ds.length → (ds.length : Int) ≤ room → k < ds.length / 7 → (∀ i : Nat, i < 2 + k + k / b → (i : Int) ∉ L) → 0 ≤ r → r ≤ g → 0 ≤ tt → tt + r ≤ g → t + r = g * ((k : Int) - (k / b : Nat)) → 32 * ((ds.length / 7 - k : Nat) : Int) + r + 60 ≤ (m : Int) →
      CInv ds room b g wi L row good m ⟨(datasP ds).drop (k + 1), true, true, if b = 0 then -1 else b - (k % b : Nat), g, r, tk, w, .go⟩ ⟨room, b, g, wi, rf, .int ds.length, ds.take (7 * k + 6), k, last, (k % b : Nat), tt⟩ [] t ((2 + k + k / b : Nat) : Int)
  | start {m : Nat} : 500 ≤ m → CInv ds room b g wi L row good m (newS ds) (newTk room b g wi) [] 0 0
theorem datas_drop {ds : List D} (hl : 8 ≤ ds.length) {j : Nat} (h1 : 1 ≤ j) (h2 : j ≤ ds.length / 7) : (datasP ds).drop j = partP ds j :: (datasP ds).drop (j + 1) := by
  have hn : (datasP ds).length = 1 + ds.length / 7 := by rw [datasP_nx]; unfold nx; rw [if_neg (by omega)]
  rw [List.drop_eq_getElem_cons (by omega)]
  congr 1
  unfold datasP
  simp only [show ¬ ds.length < 8 from by omega, if_false]
  cases j with
  | zero => omega
  | succ j => simp
theorem datas_end {ds : List D} (hl : 8 ≤ ds.length) {j : Nat} (h : j = ds.length / 7 + 1) : (datasP ds).drop j = [] := by
  have hn : (datasP ds).length = 1 + ds.length / 7 := by rw [datasP_nx]; unfold nx; rw [if_neg (by omega)]
  exact List.drop_eq_nil_of_le (by omega)
theorem datas_ne {ds : List D} (hl : 8 ≤ ds.length) {j : Nat} (h : j ≤ ds.length / 7) : (datasP ds).drop j ≠ [] := by
  have hn : (datasP ds).length = 1 + ds.length / 7 := by rw [datasP_nx]; unfold nx; rw [if_neg (by omega)]
  intro e
  have := congrArg List.length e
  rw [List.length_drop, List.length_nil] at this
  omega
/-- a next frame that a taker does not wait for -/
theorem t_dead (n i : Nat) (T : Tkr) (ds : List D) {k : Nat} (o : Obs) (h : insO o "LongTaker" (.obj i) = some (fsT T)) (hB : Bs ds) (hl : 7 * (k + 1) ≤ ds.length) (hl2 : ds.length < 100) (hd : DeadT (k + 1) T) :
    ∃ T', DeadT (k + 2) T' ∧ T'.whole = T.whole ∧ Fc (n + 3) "LongTaker.hear" [.obj i, partP ds (k + 1)] o = .ok .non (setIns o "LongTaker" (.obj i) (fsT T')) := by
  rcases hd with hd | ⟨h1, h2, m, hm⟩
  · refine ⟨T, .inl hd, rfl, t_next n i T ds k o _ _ h hB hl (by omega) ?_⟩
    rw [setIns_self h]
    exact T_next_none (n + 1) i T _ _ o h hd
  · refine ⟨leaveT T, .inl rfl, rfl, t_next n i T ds k o _ _ h hB hl (by omega) ?_⟩
    refine T_next_bad n i T _ m _ o h hm ?_ ?_
    · rw [Int.fmod_eq_emod_of_nonneg _ (by decide)]; omega
    · rw [Int.fmod_eq_emod_of_nonneg _ (by decide)]; omega
section
variable {n : Nat} {ds : List D} {room : Int} {b g : Nat} {L : List Int} {pre : Obs} {row : List Bool} {good : List D → St → Int → Prop}
def CJ (ds : List D) (room : Int) (b g : Nat) (L : List Int) (pre : Obs) (row : List Bool) (good : List D → St → Int → Prop) (k : Nat) (env : Env) (o : Obs) : Prop :=
  ∃ S T ws t c x y m, m ≤ k ∧ CInv ds room b g (pre.length + 2) L row good m S T ws t c ∧ env = cEnv (.tup ds) room b g L pre.length t c x y ∧ o = K3 pre S T ws
theorem CJ.mk {k m : Nat} {S T ws t c x y} (hm : m ≤ k) (h : CInv ds room b g (pre.length + 2) L row good m S T ws t c) : CJ ds room b g L pre row good k (cEnv (.tup ds) room b g L pre.length t c x y) (K3 pre S T ws) := ⟨S, T, ws, t, c, x, y, m, hm, h, rfl, rfl⟩
theorem go_stuck {S T t c i x y} {m : Nat} {Q : Pt} (h1 : IsFirst L row i) (h2 : S.st = .go) (h3 : S.begun = true) (h4 : S.may = 0) (h5 : S.left ≠ []) (h6 : S.ticks ≤ 20) (h7 : 22 - S.ticks ≤ (m : Int)) (hz : SzOk T) (hw : T.whole = pre.length + 2) :
    ∃ m', m = m' + 1 ∧ (denSs (Fc (n + 5)) Gl lawM w_carried_0 (cEnv (.tup ds) room b g L pre.length t c x y) (K3 pre S T [])).wp { nx := CJ ds room b g L pre row good m', ct := CJ ds room b g L pre row good m', bk := Q.nx, rt := Q.rt } := by
  obtain ⟨m', rfl⟩ : ∃ m', m = m' + 1 := ⟨m - 1, by omega⟩
  refine ⟨m', rfl, body_wait h5 (by simp [dataS, h2, h3, h4]) hz fun x y => ?_⟩
  have hw' : (tickT T).whole = pre.length + 2 := by unfold tickT; split <;> exact hw
  by_cases h20 : S.ticks = 20
  · refine CJ.mk (m := 0) (by omega) (.fin (by simp [tickS, h2, h3, h4, h20]) hz.tick hw' (.inl ⟨i, h1, rfl, fun _ => by simp [tickS, h2, h3, h4, h20]⟩))
  · refine CJ.mk (m := m') (Nat.le_refl _) (.stuck h1 ?_ ?_ ?_ ?_ ?_ ?_ hz.tick hw')
    · have : ¬ 20 < S.ticks + 1 := by omega
      simp [tickS, h2, h3, h4, this]
    · simp [tickS, h2, h3, h4]
    · simp [tickS, h2, h3, h4]
    · simpa [tickS, h2, h3, h4] using h5
    · simp [tickS, h2, h3, h4]; omega
    · simp [tickS, h2, h3, h4]; omega
theorem go_out {long} {may gap r tk w t : Int} {T i x y} {c : Int} {j m : Nat} {Q : Pt} (hl : 8 ≤ ds.length) (hl2 : ds.length < 60) (hB : Bs ds) (h1 : IsFirst L row i) (h2 : row[i]? = some true) (h3 : 1 ≤ j) (h4 : j ≤ ds.length / 7) (h5 : may ≠ 0) (h6 : 0 ≤ r) (h7 : r ≤ 30) (h8 : 0 ≤ gap) (h9 : gap ≤ 30) (hd : DeadT j T) (hw : T.whole = pre.length + 2)
    (hm : 32 * ((ds.length / 7 + 1 - j : Nat) : Int) + r + 30 ≤ (m : Int)) :
    ∃ m', m = m' + 1 ∧ (denSs (Fc (n + 5)) Gl lawM w_carried_0 (cEnv (.tup ds) room b g L pre.length t c x y) (K3 pre ⟨(datasP ds).drop j, long, true, may, gap, r, tk, w, .go⟩ T [])).wp { nx := CJ ds room b g L pre row good m', ct := CJ ds room b g L pre row good m', bk := Q.nx, rt := Q.rt } := by
  obtain ⟨m', rfl⟩ : ∃ m', m = m' + 1 := ⟨m - 1, by omega⟩
  refine ⟨m', rfl, ?_⟩
  have hne := datas_ne hl h4
  by_cases hr : 0 < r
  · refine body_wait hne (by simp [dataS, hr]) hd.sz fun x y => ?_
    have hw' : (tickT T).whole = pre.length + 2 := by unfold tickT; split <;> exact hw
    have e : tickS ⟨(datasP ds).drop j, long, true, may, gap, r, tk, w, .go⟩ = ⟨(datasP ds).drop j, long, true, may, gap, r - 1, tk, w, .go⟩ := by
      simp [tickS, h5]; omega
    rw [e]
    exact CJ.mk (m := m') (Nat.le_refl _) (.out hl h1 h2 h3 h4 h5 (by omega) (by omega) h8 h9 hd.tick hw' (by omega))
  · have hr0 : r = 0 := by omega
    subst hr0
    obtain ⟨k, rfl⟩ : ∃ k, j = k + 1 := ⟨j - 1, by omega⟩
    have hdr := datas_drop hl h3 h4
    have hda : dataS ⟨(datasP ds).drop (k + 1), long, true, may, gap, 0, tk, w, .go⟩ = partP ds (k + 1) := by
      simp [dataS, h5, hdr]
    have e : ∃ may', sentS ⟨(datasP ds).drop (k + 1), long, true, may, gap, 0, tk, w, .go⟩ = ⟨(datasP ds).drop (k + 2), long, true, may', gap, gap, 0, w, if k + 1 = ds.length / 7 then .dn else .go⟩ := by
      refine ⟨may - (if true && decide (0 < may) then 1 else 0), ?_⟩
      unfold sentS
      have ht : ((datasP ds).drop (k + 1)).tail = (datasP ds).drop (k + 2) := by rw [hdr]; rfl
      simp only [ht]
      congr 1
      by_cases q : k + 1 = ds.length / 7
      · rw [datas_end hl (by omega : k + 2 = ds.length / 7 + 1)]; simp [q]
      · have := datas_ne hl (by omega : k + 2 ≤ ds.length / 7)
        simp [q, this]
    obtain ⟨may', e⟩ := e
    have fin : ∀ T' t c x y, DeadT (k + 2) T' → T'.whole = pre.length + 2 → CJ ds room b g L pre row good m' (cEnv (.tup ds) room b g L pre.length t c x y) (K3 pre (sentS ⟨(datasP ds).drop (k + 1), long, true, may, gap, 0, tk, w, .go⟩) T' []) := fun T' t c x y hd' hw' => by
      rw [e]
      by_cases q : k + 1 = ds.length / 7
      · exact CJ.mk (m := 0) (by omega) (.fin (by simp [q]) hd'.sz hw' (.inl ⟨i, h1, rfl, fun z => by rw [h2] at z; cases z⟩))
      · rw [if_neg q]
        by_cases qm : may' = 0
        · subst qm
          exact CJ.mk (m := m') (Nat.le_refl _) (.stuck h1 rfl rfl rfl (datas_ne hl (by omega)) (by show (0 : Int) ≤ 20; omega) (by show (22 : Int) - 0 ≤ _; omega) hd'.sz hw')
        · exact CJ.mk (m := m') (Nat.le_refl _) (.out hl h1 h2 (by omega) (by omega) qm h8 h9 h8 h9 hd' hw' (by omega))
    by_cases hc : c ∈ L
    · exact body_lost hne hda hc fun x y => fin T t _ x y (hd.mono (by omega)) hw
    · obtain ⟨T', d1, d2, d3⟩ := t_dead (n + 2) _ T ds (k := k) _ (K3_T pre (sentS ⟨(datasP ds).drop (k + 1), long, true, may, gap, 0, tk, w, .go⟩) T []) hB (by omega) (by omega) hd
      rw [K3_setT] at d3
      exact body_none hne hda hc d3 fun x y => fin T' t _ x y d1 (d2.trans hw)
end

end Mp

set_option Elab.async false
set_option linter.all false
set_option maxRecDepth 100000
namespace Mp
open PySem PySem.Spec PyProof.Rows L2
section
variable {n : Nat} {ds : List D} {room : Int} {b g : Nat} {L : List Int} {pre : Obs} {row : List Bool} {good : List D → St → Int → Prop}
theorem go_sync {r tk w tt t rf : Int} {last : List D} {x y} {k m : Nat} {Q : Pt} (hl : 8 ≤ ds.length) (hl2 : ds.length < 60) (hB : Bs ds) (hb : b < 4) (hg : g ≤ 30) (hroom : (ds.length : Int) ≤ room) (hrow : row = rowE (ds.length / 7) b)
    (hgood : good [.tup ds] .dn (((ds.length / 7 : Nat) - 1 - ((ds.length / 7 - 1) / b : Nat) : Int) * g))
    (h1 : k < ds.length / 7) (h2 : ∀ i : Nat, i < 2 + k + k / b → (i : Int) ∉ L) (h3 : 0 ≤ r) (h4 : r ≤ g) (h5 : 0 ≤ tt) (h6 : tt + r ≤ g) (h7 : t + r = g * ((k : Int) - (k / b : Nat))) (hm : 32 * ((ds.length / 7 - k : Nat) : Int) + r + 60 ≤ (m : Int)) :
    ∃ m', m = m' + 1 ∧ (denSs (Fc (n + 5)) Gl lawM w_carried_0 (cEnv (.tup ds) room b g L pre.length t ((2 + k + k / b : Nat) : Int) x y) (K3 pre ⟨(datasP ds).drop (k + 1), true, true, if b = 0 then -1 else b - (k % b : Nat), g, r, tk, w, .go⟩ ⟨room, b, g, pre.length + 2, rf, .int ds.length, ds.take (7 * k + 6), k, last, (k % b : Nat), tt⟩ [])).wp { nx := CJ ds room b g L pre row good m', ct := CJ ds room b g L pre row good m', bk := Q.nx, rt := Q.rt } := by
  obtain ⟨m', rfl⟩ : ∃ m', m = m' + 1 := ⟨m - 1, by omega⟩
  refine ⟨m', rfl, ?_⟩
  have hne := datas_ne hl (by omega : k + 1 ≤ ds.length / 7)
  have hk9 : k < 9 := by omega
  obtain ⟨dv1, dv2, dv3⟩ := div_step ⟨b, hb⟩ ⟨k, hk9⟩
  simp only at dv1 dv2 dv3
  have hmay : (if b = 0 then (-1 : Int) else b - (k % b : Nat)) ≠ 0 := by
    split
    · decide
    · rename_i q; have := dv3 q; omega
  by_cases hr : 0 < r
  · refine body_wait hne (by simp [dataS, hr]) (.inr ⟨_, rfl⟩) fun x y => ?_
    have e : tickS ⟨(datasP ds).drop (k + 1), true, true, if b = 0 then -1 else b - (k % b : Nat), g, r, tk, w, .go⟩ = ⟨(datasP ds).drop (k + 1), true, true, if b = 0 then -1 else b - (k % b : Nat), g, r - 1, tk, w, .go⟩ := by
      have : (if 0 < r - 1 then r - 1 else 0) = r - 1 := by split <;> omega
      unfold tickS
      simp only [isGo_go, Bool.true_eq_false, or_self, if_false, hmay, this]
    have e2 : tickT ⟨room, b, g, pre.length + 2, rf, .int ds.length, ds.take (7 * k + 6), k, last, (k % b : Nat), tt⟩ = ⟨room, b, g, pre.length + 2, rf, .int ds.length, ds.take (7 * k + 6), k, last, (k % b : Nat), tt + 1⟩ := by
      unfold tickT
      rw [if_neg]
      rintro ⟨_, q⟩
      simp only at q; omega
    rw [e, e2]
    exact CJ.mk (m := m') (Nat.le_refl _) (.sync hl hroom h1 h2 (by omega) (by omega) (by omega) (by omega) (by rw [← h7]; omega) (by omega))
  · have hr0 : r = 0 := by omega
    subst hr0
    have hdr := datas_drop hl (by omega : 1 ≤ k + 1) (by omega)
    have hda : dataS ⟨(datasP ds).drop (k + 1), true, true, if b = 0 then -1 else b - (k % b : Nat), g, 0, tk, w, .go⟩ = partP ds (k + 1) := by
      simp only [dataS, isGo_go, Bool.true_eq_false, Int.lt_irrefl, or_self, if_false, hmay, ne_eq, not_false_eq_true, or_true, if_true, hdr, List.headD_cons]
    have hN : (rowE (ds.length / 7) b)[2 + k + k / b]? = some true ∧ _ := row_at ⟨ds.length / 7, by omega⟩ ⟨b, hb⟩ ⟨k, hk9⟩ h1
    obtain ⟨hr1, hr2⟩ := hN
    simp only at hr2
    obtain ⟨_, _, hr3⟩ := row_facts ⟨ds.length / 7, by omega⟩ ⟨b, hb⟩ (by show 0 < ds.length / 7; omega)
    simp only at hr3
    rw [← hrow] at hr1 hr2 hr3
    have e : sentS ⟨(datasP ds).drop (k + 1), true, true, if b = 0 then -1 else b - (k % b : Nat), g, 0, tk, w, .go⟩ = ⟨(datasP ds).drop (k + 2), true, true, if b = 0 then -1 else b - ((k % b : Nat) + 1), g, g, 0, w, if k + 1 = ds.length / 7 then .dn else .go⟩ := by
      unfold sentS
      have ht : ((datasP ds).drop (k + 1)).tail = (datasP ds).drop (k + 2) := by rw [hdr]; rfl
      simp only [ht, if_true, Bool.true_and]
      congr 1
      · split
        · simp
        · rename_i q
          have := dv3 q
          rw [decide_eq_true (by omega)]; simp; omega
      · by_cases q : k + 1 = ds.length / 7
        · rw [datas_end hl (by omega : k + 2 = ds.length / 7 + 1)]; simp [q]
        · have := datas_ne hl (by omega : k + 2 ≤ ds.length / 7)
          simp [q, this]
    by_cases hc : ((2 + k + k / b : Nat) : Int) ∈ L
    · refine body_lost hne hda hc fun x y => ?_
      have hlt : 2 + k + k / b < row.length := (List.getElem?_eq_some_iff.mp hr1).1
      have hf : IsFirst L row (2 + k + k / b) := ⟨hlt, hc, h2⟩
      rw [e]
      by_cases q : k + 1 = ds.length / 7
      · exact CJ.mk (m := 0) (by omega) (.fin (by simp [q]) (.inr ⟨_, rfl⟩) rfl (.inl ⟨_, hf, rfl, fun z => by rw [hr1] at z; cases z⟩))
      · rw [if_neg q]
        have dead : DeadT (k + 2) ⟨room, b, g, pre.length + 2, rf, .int ds.length, ds.take (7 * k + 6), k, last, (k % b : Nat), tt⟩ := .inr ⟨by show (0 : Int) ≤ k; omega, by show (k : Int) + 1 < ((k + 2 : Nat) : Int); omega, _, rfl⟩
        by_cases qm : (if b = 0 then (-1 : Int) else b - ((k % b : Nat) + 1)) = 0
        · rw [qm]
          exact CJ.mk (m := m') (Nat.le_refl _) (.stuck hf rfl rfl rfl (datas_ne hl (by omega)) (by show (0 : Int) ≤ 20; omega) (by show (22 : Int) - 0 ≤ _; omega) dead.sz rfl)
        · exact CJ.mk (m := m') (Nat.le_refl _) (.out hl hf hr1 (by omega) (by omega) qm (by omega) (by omega) (by omega) (by omega) dead rfl (by omega))
    · have k1 : ((k : Int) + 1) % 16 ≠ (k : Int).fmod 16 := by rw [Int.fmod_eq_emod_of_nonneg _ (by decide)]; omega
      have k2 : ((k : Int) + 1) % 16 = ((k : Int) + 1).fmod 16 := by rw [Int.fmod_eq_emod_of_nonneg _ (by decide)]
      have lg : (ds.take (7 * k + 6)).length = 7 * k + 6 := by rw [List.length_take]; omega
      have lp : ((ds.drop (7 * k + 6)).take 7).length = min 7 (ds.length - (7 * k + 6)) := by rw [List.length_take, List.length_drop]
      have hT := K3_T pre (sentS ⟨(datasP ds).drop (k + 1), true, true, if b = 0 then -1 else b - (k % b : Nat), g, 0, tk, w, .go⟩) ⟨room, b, g, pre.length + 2, rf, .int ds.length, ds.take (7 * k + 6), k, last, (k % b : Nat), tt⟩ []
      have hL := K3_L pre (sentS ⟨(datasP ds).drop (k + 1), true, true, if b = 0 then -1 else b - (k % b : Nat), g, 0, tk, w, .go⟩) ⟨room, b, g, pre.length + 2, rf, .int ds.length, ds.take (7 * k + 6), k, last, (k % b : Nat), tt⟩ []
      have wnt : (((ds.drop (7 * k + 6)).take 7).length : Int) = if (ds.length : Int) - (ds.take (7 * k + 6)).length < 7 then (ds.length : Int) - (ds.take (7 * k + 6)).length else 7 := by
        rw [lg, lp]; split <;> omega
      have gcat : ds.take (7 * (k + 1) + 6) = ds.take (7 * k + 6) ++ (ds.drop (7 * k + 6)).take 7 := by
        rw [show 7 * (k + 1) + 6 = 7 * k + 6 + 7 from by omega, List.take_add]
      by_cases q : k + 1 = ds.length / 7
      · -- the last one
        have hh := t_next (n + 2) _ _ ds k _ _ _ hT hB (by omega) (by omega) (T_next_full (n + 2) _ _ _ _ _ _ _ hT rfl k1 k2 (by rw [lg, lp]; omega) wnt (by rw [lg, lp]; omega) hL (by decide))
        rw [K3_setT] at hh
        have hwh : (⟨room, b, g, pre.length + 2, rf, .int ds.length, ds.take (7 * k + 6), k, last, (k % b : Nat), tt⟩ : Tkr).whole = pre.length + 2 := rfl
        rw [hwh, K3_setL] at hh
        have hcat : ds.take (7 * k + 6) ++ (ds.drop (7 * k + 6)).take 7 = ds := by
          rw [List.take_of_length_le (l := ds.drop (7 * k + 6)) (by rw [List.length_drop]; omega), List.take_append_drop]
        rw [hcat] at hh
        refine body_none hne hda hc hh fun x y => ?_
        rw [e]
        refine CJ.mk (m := 0) (by omega) (.fin (by simp [q]) (.inl rfl) rfl (.inr ⟨fun i hi => ?_, ?_⟩))
        · by_cases z : i = 2 + k + k / b
          · rw [z]; exact hc
          · refine h2 i ?_
            have a1 : ds.length / 7 - 1 = k := by omega
            rw [hr3, a1] at hi
            omega
        · have a1 : ds.length / 7 - 1 = k := by omega
          rw [a1] at hgood
          have a2 : t = (((ds.length / 7 : Nat) : Int) - 1 - ((k / b : Nat) : Int)) * g := by
            have : ((ds.length / 7 : Nat) : Int) - 1 = k := by omega
            rw [this, Int.mul_comm, ← h7]; omega
          rw [a2]
          simp only [q, if_true, List.nil_append]
          exact hgood
      · -- one more
        have hw := T_next_more (n + 2) _ _ _ _ _ _ hT rfl k1 k2 (by rw [lg, lp]; omega) wnt (by rw [lg, lp]; omega)
        by_cases qf : k % b + 1 = b
        · obtain ⟨dv, dm⟩ := dv1 qf
          have qfi : ((k % b : Nat) : Int) + 1 = b := by omega
          rw [if_pos qfi, K3_setT] at hw
          have hh := t_next (n + 2) _ _ ds k _ _ _ hT hB (by omega) (by omega) hw
          refine body_flow (w := 0) (b' := (b : Int)) (g' := (g : Int)) hne hda hc hh (by decide) (by decide) (by omega) (by omega) (by omega) (by omega) fun x y => ?_
          have hrw := hr2 qf (by omega)
          rw [e, if_neg q]
          have hb0 : b ≠ 0 := by omega
          have hm0 : (if b = 0 then (-1 : Int) else b - ((k % b : Nat) + 1)) = 0 := by rw [if_neg hb0]; omega
          rw [hm0]
          by_cases hc2 : ((2 + k + k / b : Nat) : Int) + 1 ∈ L
          · rw [if_pos hc2]
            have hlt : 2 + k + k / b + 1 < row.length := (List.getElem?_eq_some_iff.mp hrw).1
            have hf : IsFirst L row (2 + k + k / b + 1) := ⟨hlt, by exact_mod_cast hc2, fun i hi => by
              by_cases z : i = 2 + k + k / b
              · rw [z]; exact hc
              · exact h2 i (by omega)⟩
            exact CJ.mk (m := m') (Nat.le_refl _) (.stuck hf rfl rfl rfl (datas_ne hl (by omega)) (by show (0 : Int) ≤ 20; omega) (by show (22 : Int) - 0 ≤ _; omega) (.inr ⟨_, rfl⟩) rfl)
          · rw [if_neg hc2]
            have eF : flowS ⟨(datasP ds).drop (k + 2), true, true, 0, g, g, 0, w, .go⟩ 0 b g = ⟨(datasP ds).drop (k + 1 + 1), true, true, if b = 0 then -1 else b - ((k + 1) % b : Nat), g, 0, 0, 0, .go⟩ := by
              have hbp : (0 : Int) < b := by omega
              rw [if_neg hb0, dm]
              simp [flowS, hbp, hb0]
            have ec : ((2 + k + k / b : Nat) : Int) + 1 + 1 = ((2 + (k + 1) + (k + 1) / b : Nat) : Int) := by rw [dv]; omega
            rw [eF, ec]
            have eT : ({ dueT ⟨room, b, g, pre.length + 2, rf, .int ds.length, ds.take (7 * k + 6), k, last, (k % b : Nat), tt⟩ ((ds.drop (7 * k + 6)).take 7) with count := 0 } : Tkr) = ⟨room, b, g, pre.length + 2, rf, .int ds.length, ds.take (7 * (k + 1) + 6), ((k + 1 : Nat) : Int), (ds.drop (7 * k + 6)).take 7, ((k + 1) % b : Nat), 0⟩ := by
              rw [dm, gcat]; rfl
            rw [eT]
            refine CJ.mk (m := m') (Nat.le_refl _) (.sync hl hroom (by omega) (fun i hi => ?_) (by omega) (by omega) (by omega) (by omega) ?_ (by omega))
            · rw [dv] at hi
              by_cases z : i = 2 + k + k / b
              · rw [z]; exact hc
              · by_cases z2 : i = 2 + k + k / b + 1
                · rw [z2]; exact_mod_cast hc2
                · exact h2 i (by omega)
            · rw [dv]
              have : ((k + 1 : Nat) : Int) - ((k / b + 1 : Nat) : Int) = (k : Int) - (k / b : Nat) := by omega
              rw [this]; exact h7
        · obtain ⟨dv, dm⟩ := dv2 qf
          have qfi : ¬ ((k % b : Nat) : Int) + 1 = b := by omega
          rw [if_neg qfi, K3_setT] at hw
          have hh := t_next (n + 2) _ _ ds k _ _ _ hT hB (by omega) (by omega) hw
          refine body_none hne hda hc hh fun x y => ?_
          rw [e, if_neg q]
          have em : (if b = 0 then (-1 : Int) else b - ((k % b : Nat) + 1)) = if b = 0 then (-1 : Int) else b - ((k + 1) % b : Nat) := by rw [dm]; split <;> omega
          have ec : ((2 + k + k / b : Nat) : Int) + 1 = ((2 + (k + 1) + (k + 1) / b : Nat) : Int) := by rw [dv]; omega
          have eT : dueT ⟨room, b, g, pre.length + 2, rf, .int ds.length, ds.take (7 * k + 6), k, last, (k % b : Nat), tt⟩ ((ds.drop (7 * k + 6)).take 7) = ⟨room, b, g, pre.length + 2, rf, .int ds.length, ds.take (7 * (k + 1) + 6), ((k + 1 : Nat) : Int), (ds.drop (7 * k + 6)).take 7, ((k + 1) % b : Nat), 0⟩ := by
            rw [dm, gcat]; rfl
          rw [em, ec, eT]
          refine CJ.mk (m := m') (Nat.le_refl _) (.sync (k := k + 1) hl hroom (by omega) (fun i hi => ?_) (by omega) (by omega) (by omega) (by omega) ?_ (by omega))
          · rw [dv] at hi
            by_cases z : i = 2 + k + k / b
            · rw [z]; exact hc
            · exact h2 i (by omega)
          · rw [dv]
            have : ((k + 1 : Nat) : Int) - ((k / b : Nat) : Int) = (k : Int) - (k / b : Nat) + 1 := by omega
            rw [this, Int.mul_add, ← h7]; omega
end

end Mp

set_option Elab.async false
set_option linter.all false
set_option maxRecDepth 100000
namespace Mp
open PySem PySem.Spec PyProof.Rows L2
/-- the frames and flows of an undisturbed course -/
def rowM (len : Nat) (room : Int) (b : Nat) : List Bool := if 7 < len ∧ room < len then [true, false] else rowE (nx len) b
def fitM (len : Nat) (room : Int) : Prop := len < 8 ∨ (len : Int) ≤ room
def tkM (len b g : Nat) : Int := if len < 8 then 0 else ((len / 7 : Nat) - 1 - ((len / 7 - 1) / b : Nat) : Int) * g
def goodM (ds : List D) (room : Int) (b g : Nat) (ws : List D) (st : St) (t : Int) : Prop := (fitM ds.length room → ws = [.tup ds] ∧ st = .dn ∧ t = tkM ds.length b g) ∧ (¬ fitM ds.length room → ws = [] ∧ st = .rf ∧ t = 0)
section
variable {n : Nat} {ds : List D} {room : Int} {b g : Nat} {L : List Int} {pre : Obs} {row : List Bool} {good : List D → St → Int → Prop}
theorem go_start {x y} {m : Nat} {Q : Pt} (hl2 : ds.length < 60) (hB : Bs ds) (hb : b < 4) (hg : g ≤ 30) (hm : 500 ≤ m) :
    ∃ m', m = m' + 1 ∧ (denSs (Fc (n + 5)) Gl lawM w_carried_0 (cEnv (.tup ds) room b g L pre.length 0 0 x y) (K3 pre (newS ds) (newTk room b g (pre.length + 2)) [])).wp { nx := CJ ds room b g L pre (rowM ds.length room b) (goodM ds room b g) m', ct := CJ ds room b g L pre (rowM ds.length room b) (goodM ds room b g) m', bk := Q.nx, rt := Q.rt } := by
  obtain ⟨m', rfl⟩ : ∃ m', m = m' + 1 := ⟨m - 1, by omega⟩
  refine ⟨m', rfl, ?_⟩
  by_cases hl : ds.length < 8
  · -- alone
    have hd : datasP ds = [.tup (.int ds.length :: ds)] := by unfold datasP; rw [if_pos hl]
    have hne : (newS ds).left ≠ [] := by show datasP ds ≠ []; rw [hd]; exact List.cons_ne_nil _ _
    have hda : dataS (newS ds) = .tup (.int ds.length :: ds) := by
      show dataS ⟨datasP ds, _, false, 0, 0, 0, 0, 0, .go⟩ = _
      rw [hd]; rfl
    have hst : (sentS (newS ds)).st = .dn := by
      show (if (datasP ds).tail.isEmpty then St.dn else _) = _
      rw [hd]; rfl
    have hrow : rowM ds.length room b = [true] := by
      unfold rowM
      rw [if_neg (by omega)]
      have : nx ds.length = 0 := by unfold nx; rw [if_pos hl]
      rw [this]; rfl
    rw [hrow]
    by_cases hc : (0 : Int) ∈ L
    · refine body_lost hne hda hc fun x y => CJ.mk (m := 0) (by omega) (.fin (by rw [hst]; rfl) (.inl rfl) rfl (.inl ⟨0, ⟨by decide, hc, fun k hk => absurd hk (Nat.not_lt_zero _)⟩, rfl, fun z => by cases z⟩))
    · have hh := t_alone (n + 2) _ _ ds _ _ (K3_T pre (sentS (newS ds)) (newTk room b g (pre.length + 2)) []) (.inl rfl) hB hl (K3_L pre (sentS (newS ds)) (newTk room b g (pre.length + 2)) []) (by decide)
      rw [K3_setT] at hh
      have hwh : (newTk room b g (pre.length + 2)).whole = pre.length + 2 := rfl
      rw [hwh, K3_setL] at hh
      refine body_none hne hda hc hh fun x y => CJ.mk (m := 0) (by omega) (.fin (by rw [hst]; rfl) (.inl rfl) rfl (.inr ⟨fun i hi => ?_, ?_⟩))
      · have : i = 0 := by simpa using hi
        rw [this]; exact hc
      · refine ⟨fun _ => ⟨rfl, hst, ?_⟩, fun z => absurd (.inl hl) z⟩
        unfold tkM; rw [if_pos hl]
  · -- long
    have hl8 : 8 ≤ ds.length := by omega
    have hd : datasP ds = headP ds :: (datasP ds).drop 1 := by unfold datasP; rw [if_neg hl]; rfl
    have hne : (newS ds).left ≠ [] := by show datasP ds ≠ []; rw [hd]; exact List.cons_ne_nil _ _
    have hda : dataS (newS ds) = headP ds := by
      show dataS ⟨datasP ds, _, false, 0, 0, 0, 0, 0, .go⟩ = _
      rw [hd]; rfl
    have hlong : decide (7 < (ds.length : Int)) = true := decide_eq_true (by omega)
    have hne1 := datas_ne hl8 (by omega : 1 ≤ ds.length / 7)
    have e : sentS (newS ds) = ⟨(datasP ds).drop 1, true, true, 0, 0, 0, 0, 0, .go⟩ := by
      unfold newS sentS
      rw [hlong]
      have ht : (datasP ds).tail = (datasP ds).drop 1 := by rw [hd]; rfl
      have he : ((datasP ds).drop 1).isEmpty = false := by
        cases h : (datasP ds).drop 1 with
        | nil => exact absurd h hne1
        | cons _ _ => rfl
      simp only [ht, he]
      rfl
    have hN : 0 < ds.length / 7 := by omega
    obtain ⟨r0, r1, r2⟩ := row_facts ⟨ds.length / 7, by omega⟩ ⟨b, hb⟩ hN
    simp only at r0 r1 r2
    have hnx : nx ds.length = ds.length / 7 := by unfold nx; rw [if_neg hl]
    have hrl : 1 < (rowM ds.length room b).length := by
      unfold rowM
      split
      · decide
      · rw [hnx, r2]; generalize (ds.length / 7 - 1) / b = z; omega
    have stk : ∀ T t c x y i, IsFirst L (rowM ds.length room b) i → SzOk T → T.whole = pre.length + 2 → CJ ds room b g L pre (rowM ds.length room b) (goodM ds room b g) m' (cEnv (.tup ds) room b g L pre.length t c x y) (K3 pre (sentS (newS ds)) T []) := fun T t c x y i hi hz hw => by
      rw [e]
      exact CJ.mk (m := m') (Nat.le_refl _) (.stuck hi rfl rfl rfl hne1 (by show (0 : Int) ≤ 20; omega) (by show (22 : Int) - 0 ≤ _; omega) hz hw)
    obtain ⟨dx, hdx⟩ : ∃ dx, headP ds = .tup dx := ⟨_, rfl⟩
    rw [hdx] at hda
    by_cases hc : (0 : Int) ∈ L
    · exact body_lost hne hda hc fun x y => stk _ _ _ _ _ 0 ⟨by omega, hc, fun k hk => absurd hk (Nat.not_lt_zero _)⟩ (.inl rfl) rfl
    · have hh := t_first_new (n + 2) _ _ ds _ (K3_T pre (sentS (newS ds)) (newTk room b g (pre.length + 2)) []) (.inl rfl) (fun d hd => nomatch hd) (by show 0 < 1000; omega) hB hl8 (by omega) (fun z => by cases z.1)
      rw [hdx] at hh
      have hrm : (newTk room b g (pre.length + 2)).room = room := rfl
      rw [hrm] at hh
      have f1 : (1 : Int) ∈ L → IsFirst L (rowM ds.length room b) 1 := fun q => ⟨hrl, q, fun k hk => by
        have : k = 0 := by omega
        subst this; exact hc⟩
      by_cases hm : room < ds.length
      · rw [if_pos hm, K3_setT] at hh
        refine body_flow (w := 2) (b' := 0) (g' := 0) hne hda hc hh (by decide) (by decide) (by decide) (by decide) (by decide) (by decide) fun x y => ?_
        by_cases hc2 : (0 : Int) + 1 ∈ L
        · rw [if_pos hc2]
          exact stk _ _ _ _ _ 1 (f1 hc2) (.inl rfl) rfl
        · rw [if_neg hc2, e]
          have hrow : rowM ds.length room b = [true, false] := by unfold rowM; rw [if_pos ⟨by omega, hm⟩]
          refine CJ.mk (m := 0) (by omega) (.fin rfl (.inl rfl) rfl (.inr ⟨fun i hi => ?_, ⟨fun z => ?_, fun _ => ⟨rfl, rfl, rfl⟩⟩⟩))
          · rw [hrow] at hi
            have : i = 0 ∨ i = 1 := by simp at hi; omega
            rcases this with rfl | rfl
            · exact hc
            · exact hc2
          · rcases z with z | z <;> omega
      · rw [if_neg hm, K3_setT] at hh
        refine body_flow (w := 0) (b' := b) (g' := g) hne hda hc hh (by decide) (by decide) (by omega) (by omega) (by omega) (by omega) fun x y => ?_
        by_cases hc2 : (0 : Int) + 1 ∈ L
        · rw [if_pos hc2]
          exact stk _ _ _ _ _ 1 (f1 hc2) (.inr ⟨_, rfl⟩) rfl
        · rw [if_neg hc2, e]
          have eF : flowS ⟨(datasP ds).drop 1, true, true, 0, 0, 0, 0, 0, .go⟩ 0 b g = ⟨(datasP ds).drop (0 + 1), true, true, if b = 0 then -1 else b - (0 % b : Nat), g, 0, 0, 0, .go⟩ := by
            by_cases hb0 : b = 0
            · subst hb0; simp [flowS]
            · have hbp : (0 : Int) < b := by omega
              simp [flowS, hbp, hb0]
          have eT : newT (newTk room b g (pre.length + 2)) ds.length (ds.take 6) = ⟨room, b, g, pre.length + 2, 0, .int ds.length, ds.take (7 * 0 + 6), ((0 : Nat) : Int), ds.take 6, (0 % b : Nat), 0⟩ := by
            rw [Nat.zero_mod]; rfl
          rw [eF, eT]
          have ec : (0 : Int) + 1 + 1 = ((2 + 0 + 0 / b : Nat) : Int) := by rw [Nat.zero_div]; rfl
          rw [ec]
          refine CJ.mk (m := m') (Nat.le_refl _) (.sync (k := 0) hl8 (by omega) hN (fun i hi => ?_) (by omega) (by omega) (by omega) (by omega) ?_ (by omega))
          · rw [Nat.zero_div] at hi
            have : i = 0 ∨ i = 1 := by omega
            rcases this with rfl | rfl
            · exact hc
            · exact hc2
          · rw [Nat.zero_div]; simp
theorem wp_true {b : Bool} {o : Obs} {A B : Obs → Prop} (h : b = true) (q : A o) : (R.ok b o).wp fun t o1 => if t = true then A o1 else B o1 := by
  subst h
  rw [R.wp_ok]; simpa using q
theorem wp_false {b : Bool} {o : Obs} {A B : Obs → Prop} (h : b = false) (q : B o) : (R.ok b o).wp fun t o1 => if t = true then A o1 else B o1 := by
  subst h
  rw [R.wp_ok]; simpa using q
theorem carried_ok (hl2 : ds.length < 60) (hB : Bs ds) (hb : b < 4) (hg : g ≤ 30) :
    (Fc (n + 6) "carried" [.tup ds, .int room, .int b, .int g, .tup (L.map .int)] pre).wp fun d o => ∃ ws st t S T, d = .tup [.tup ws, .str (St.s st), .int t] ∧ FinOk L (rowM ds.length room b) (goodM ds room b g) ws st t ∧ o = K3 pre S T ws := by
  rw [r_carried]
  have a1 : insO (pre ++ [Ob.ins "LongSender" []]) "LongSender" (.obj pre.length) = some [] := insO_at (by rw [List.getElem?_append_right (Nat.le_refl _), Nat.sub_self]; rfl)
  have e1 := S_init_ok (n + 2) _ ds _ a1 (by omega)
  have a2 : setIns (pre ++ [Ob.ins "LongSender" []]) "LongSender" (.obj pre.length) (fsS (newS ds)) = pre ++ [Ob.ins "LongSender" (fsS (newS ds))] := by
    show (pre ++ [_]).set pre.length _ = _
    rw [List.set_append_right _ _ (Nat.le_refl _), Nat.sub_self]; rfl
  rw [a2] at e1
  have a3 : insO (pre ++ [Ob.ins "LongSender" (fsS (newS ds))] ++ [Ob.ins "LongTaker" []]) "LongTaker" (.obj (pre.length + 1)) = some [] := insO_at (by rw [List.getElem?_append_right (by simp)]; simp)
  have e2 := T_init_ok (n + 4) _ room b g _ a3
  have a4 : setIns (pre ++ [Ob.ins "LongSender" (fsS (newS ds))] ++ [Ob.ins "LongTaker" []] ++ [.ls []]) "LongTaker" (.obj (pre.length + 1)) (fsT (newTk room b g (pre ++ [Ob.ins "LongSender" (fsS (newS ds))] ++ [Ob.ins "LongTaker" []]).length)) = K3 pre (newS ds) (newTk room b g (pre.length + 2)) [] := by
    show (pre ++ [_] ++ [_] ++ [_]).set (pre.length + 1) _ = _
    simp [K3]
  rw [a4] at e2
  refine endR_wp ?_
  have lw : ((pre ++ [Ob.ins "LongSender" (fsS (newS ds))]).length) = pre.length + 1 := by simp
  simp only [List.append_assoc, List.cons_append, List.nil_append] at e2
  simp [m_carried, e1, e2, lw]
  refine RS.wp_seq (whileD_wp (CJ ds room b g L pre (rowM ds.length room b) (goodM ds room b g)) (k := 4000) ?_ (by show 4000 < 5000; omega) ?_)
  · rintro k env o ⟨S, T, ws, t, c, x, y, m, hm, hI, rfl, rfl⟩
    have es := S_state_ok (n + 4) _ _ _ (K3_S pre S T ws)
    have ks := K3_S pre S T ws
    have ec : denT (Fc (n + 5)) Gl (.cmp .Eq (.mcl "LongSender" "state" (.var 5) .nil) (.lit (.str "going"))) (cEnv (.tup ds) room b g L pre.length t c x y) (K3 pre S T ws) = .ok S.st.isGo (K3 pre S T ws) := by
      unfold cEnv
      simp [es, ks]
    rw [ec]
    cases hI with
    | fin h1 h2 h3 h4 =>
      refine wp_false h1 ?_
      have em := T_messages_ok (n + 4) _ _ _ _ (K3_T pre S T ws) (by rw [h3]; exact K3_L pre S T ws)
      have kt := K3_T pre S T ws
      unfold cEnv
      simp [es, em, ks, kt]
      exact ⟨ws, S.st, t, ⟨rfl, rfl, rfl⟩, h4, S, T, rfl⟩
    | stuck h1 h2 h3 h4 h5 h6 h7 hz hw =>
      refine wp_true (by rw [h2]; rfl) ?_
      exact go_stuck h1 h2 h3 h4 h5 h6 (by omega) hz hw
    | out hl h1 h2 h3 h4 h5 h6 h7 h8 h9 hd hw hm' =>
      refine wp_true rfl ?_
      exact go_out hl hl2 hB h1 h2 h3 h4 h5 h6 h7 h8 h9 hd hw (by omega)
    | sync hl hroom h1 h2 h3 h4 h5 h6 h7 hm' =>
      refine wp_true rfl ?_
      refine go_sync hl hl2 hB hb hg hroom ?_ ?_ h1 h2 h3 h4 h5 h6 h7 (by omega)
      · unfold rowM nx
        rw [if_neg (by omega), if_neg (by omega)]
      · refine ⟨fun _ => ⟨rfl, rfl, ?_⟩, fun z => absurd (.inr hroom) z⟩
        unfold tkM; rw [if_neg (by omega)]
    | start hm' =>
      refine wp_true rfl ?_
      exact go_start hl2 hB hb hg (by omega)
  · exact CJ.mk (m := 500) (by omega) (.start (Nat.le_refl _))
end

end Mp

set_option Elab.async false
set_option linter.all false
set_option maxRecDepth 100000
namespace Mp
open PySem PySem.Spec PyProof.Rows L2
/-! ### rules of stores into lists of one's own -/
section
variable {Φ : Str → List D → Obs → R D} {G : Str → Option D} {N : Nat} {env : Env} {o : Obs}
def qExt (i : Nat) (env : Env) (ds : List D) (x : D) (o : Obs) : RS := match x with
  | .lst es => if ds.length + es.length ≤ sizeLine then .nx (env.set i (.ol (ds ++ es))) o else .bad
  | _ => .bad
@[simp] theorem qExt_ap (i : Nat) (env : Env) (ds es : List D) : qExt i env ds (.lst es) o = if ds.length + es.length ≤ sizeLine then .nx (env.set i (.ol (ds ++ es))) o else .bad := (rfl)
def qExt0 (Φ : Str → List D → Obs → R D) (G : Str → Option D) (i : Nat) (e : E) (env : Env) (ds : List D) (o : Obs) : RS := (denE Φ G e env o).st env (qExt i env ds)
@[simp] theorem qExt0_ap (i : Nat) (e : E) (env : Env) (ds : List D) : qExt0 Φ G i e env ds o = (denE Φ G e env o).st env (qExt i env ds) := (rfl)
@[simp] theorem dS_ext (i : Nat) (e : E) : denS Φ G N (.ext i e) env o = (R.opt o (slL env i)).st env (qExt0 Φ G i e env) := by
  have : denS Φ G N (.ext i e) env o = match env[i]? with
    | some (.ol ds) => (denE Φ G e env o).st env fun x o => match x with
      | .lst es => if ds.length + es.length ≤ sizeLine then .nx (env.set i (.ol (ds ++ es))) o else .bad
      | _ => .bad
    | _ => .bad := rfl
  rw [this]; unfold slL
  cases env[i]? with
  | none => rfl
  | some s => cases s <;> rfl
def qLput (i : Nat) (env : Env) (ds : List D) (x : D) (n : Nat) (o : Obs) : RS := .nx (env.set i (.ol (ds.set n x))) o
@[simp] theorem qLput_ap (i : Nat) (env : Env) (ds : List D) (x : D) (n : Nat) : qLput i env ds x n o = .nx (env.set i (.ol (ds.set n x))) o := (rfl)
def qLputZ (i : Nat) (env : Env) (ds : List D) (x : D) (y : D) (o : Obs) : RS := match y with
  | .int j => (R.opt o (ixN ds.length j)).st env (qLput i env ds x)
  | _ => .bad
@[simp] theorem qLputZ_ap (i : Nat) (env : Env) (ds : List D) (x : D) (j : Int) : qLputZ i env ds x (.int j) o = (R.opt o (ixN ds.length j)).st env (qLput i env ds x) := (rfl)
def qLput1 (Φ : Str → List D → Obs → R D) (G : Str → Option D) (i : Nat) (k : E) (env : Env) (ds : List D) (x : D) (o : Obs) : RS := (denE Φ G k env o).st env (qLputZ i env ds x)
@[simp] theorem qLput1_ap (i : Nat) (k : E) (env : Env) (ds : List D) (x : D) : qLput1 Φ G i k env ds x o = (denE Φ G k env o).st env (qLputZ i env ds x) := (rfl)
def qLput0 (Φ : Str → List D → Obs → R D) (G : Str → Option D) (i : Nat) (k e : E) (env : Env) (ds : List D) (o : Obs) : RS := (denE Φ G e env o).st env (qLput1 Φ G i k env ds)
@[simp] theorem qLput0_ap (i : Nat) (k e : E) (env : Env) (ds : List D) : qLput0 Φ G i k e env ds o = (denE Φ G e env o).st env (qLput1 Φ G i k env ds) := (rfl)
@[simp] theorem dS_put (i : Nat) (k e : E) : denS Φ G N (.put i k e) env o = (R.opt o (slL env i)).st env (qLput0 Φ G i k e env) := by
  have : denS Φ G N (.put i k e) env o = match env[i]? with
    | some (.ol ds) => (denE Φ G e env o).st env fun x o => (denE Φ G k env o).st env fun y o => match y with
      | .int j => match ixN ds.length j with
        | some n => .nx (env.set i (.ol (ds.set n x))) o
        | none => .bad
      | _ => .bad
    | _ => .bad := rfl
  rw [this]; unfold slL
  cases env[i]? with
  | none => rfl
  | some s =>
    cases s with
    | ol ds =>
      show (denE Φ G e env o).st env _ = (denE Φ G e env o).st env _
      congr 1; funext x o
      show (denE Φ G k env o).st env _ = (denE Φ G k env o).st env _
      congr 1; funext y o
      cases y with
      | int j =>
        show (match ixN ds.length j with | some n => RS.nx (env.set i (.ol (ds.set n x))) o | none => .bad) = (R.opt o (ixN ds.length j)).st env (qLput i env ds x)
        cases ixN ds.length j <;> rfl
      | _ => rfl
    | _ => rfl
end

/-! ### messages, exchanges -/
theorem message_ok (n : Nat) (s : Bx) (r : Obs) {most : Int} (m1 : 1 ≤ most) (m2 : most < 1000) : ∃ ds s', Fc (n + 3) "_law_message" [.obj 1, .int most] (bx s r) = .ok (.tup ds) (bx s' r) ∧ Bs ds ∧ (ds.length : Int) < most := by
  rw [r__law_message]
  obtain ⟨d1, s1, e1, p1, q1⟩ := draw_ok s r n (many := most) m1 (by omega)
  have hs : smallI d1 = true := by unfold smallI; exact decide_eq_true (by omega)
  have hw : (lcD [2] (.nm 2) (denC (Fc (n + 2)) Gl .none) (denE (Fc (n + 2)) Gl (.call "_law_draw" (.cons (.var 0) (.cons (.ix (.lst (.cons (.lit (.int 3)) (.cons (.lit (.int 256)) .nil))) (.call "_law_draw" (.cons (.var 0) (.cons (.lit (.int 2)) .nil)))) .nil)))) [.v (.obj 1), .v (.int most), .un] (rangeD 0 d1.toNat 1) [] (bx s1 r)).wp fun l o => ∃ s', o = bx s' r ∧ Bs l ∧ l.length = d1.toNat := by
    refine lcD_wp (fun i acc o => ∃ s', o = bx s' r ∧ Bs acc ∧ acc.length = i) (i := 0) ⟨s1, rfl, (fun d hd => nomatch hd), rfl⟩ ?_ ?_
    · rintro j d acc o hj ⟨s', rfl, hB, hlen⟩
      obtain ⟨hj', rfl⟩ := rangeD_at hj
      refine ⟨_, rfl, ?_⟩
      obtain ⟨d2, s2, e2, p2, q2⟩ := draw_ok s' r n (many := 2) (by decide) (by decide)
      obtain ⟨z, hz, z0, z1⟩ : ∃ z : Int, atI [D.int 3, .int 256] d2 = some (.int z) ∧ 1 ≤ z ∧ z ≤ 256 := by
        rcases (by omega : d2 = 0 ∨ d2 = 1) with rfl | rfl
        · exact ⟨3, by simp, by omega, by omega⟩
        · exact ⟨256, by simp, by omega, by omega⟩
      obtain ⟨d3, s3, e3, p3, q3⟩ := draw_ok s2 r n (many := z) z0 (by omega)
      have : acc.length < 16777216 := by omega
      simp [e2, hz, e3, this]
      refine ⟨⟨s3, rfl⟩, hB.app fun d hd => ?_, by omega⟩
      rw [List.mem_singleton] at hd; subst hd
      exact ⟨d3, rfl, p3, by omega⟩
    · rintro acc o ⟨s', rfl, hB, hlen⟩
      exact ⟨s', rfl, hB, by rw [hlen, rangeD_len]; omega⟩
  obtain ⟨l, o, hl, s', rfl, hB, hlen⟩ := R.wp_eq hw
  refine ⟨l, s', ?_, hB, by omega⟩
  simp [m__law_message, e1, hs, hl]
def rowP (N b i : Nat) : List Bool := (true :: (if 0 < N then [false] else [])) ++ ((List.range i).map fun k => seg N b (k + 1)).flatten
theorem rowP_step (N b i : Nat) : rowP N b (i + 1) = rowP N b i ++ seg N b (i + 1) := by
  unfold rowP
  rw [List.range_succ, List.map_append, List.flatten_append, ← List.append_assoc]
  simp
theorem rowP_len (N b : Nat) : ∀ i, (rowP N b i).length ≤ 2 + 2 * i
  | 0 => by unfold rowP; split <;> simp
  | i + 1 => by
    rw [rowP_step, List.length_append]
    have := rowP_len N b i
    have : (seg N b (i + 1)).length ≤ 2 := by unfold seg; split <;> simp
    omega
theorem ex_loop (n N b : Nat) (m : D) (room : Int) (o : Obs) (hx : N < 9) (hb : b < 4) :
    (forD (.nm 5) (denSs (Fc (n + 2)) Gl lawM w__law_exchange_0) (rangeD 1 N 1) [.v m, .v (.int room), .v (.int b), .v (.int N), .ol ((rowP N b 0).map .bl), .un] o).wp { nx := fun env o' => o' = o ∧ ∃ x, env = [.v m, .v (.int room), .v (.int b), .v (.int N), .ol ((rowE N b).map .bl), x] } := by
  refine forD_wp (fun i env o' => o' = o ∧ ∃ x, env = [.v m, .v (.int room), .v (.int b), .v (.int N), .ol ((rowP N b i).map .bl), x]) (i := 0) ⟨rfl, .un, rfl⟩ ?_ ?_
  · rintro j d env o' hj ⟨rfl, x, rfl⟩
    obtain ⟨hj, rfl⟩ := rangeD_at hj
    refine ⟨_, rfl, ?_⟩
    have hlen := rowP_len (N) b (0 + j)
    have f1 : (rowP (N) b (0 + j)).length < 16777216 := by omega
    have f2 : (rowP (N) b (0 + j)).length + 1 + 1 ≤ 16777216 := by omega
    have f3 : (rowP (N) b (0 + j)).length + 1 ≤ 16777216 := by omega
    have hk : (1 : Int) + (j : Int) * 1 = ((j + 1 : Nat) : Int) := by omega
    rw [hk, rowP_step]
    rw [Nat.zero_add] at f1 f2 f3 ⊢
    have bq : b < 1073741824 := by omega
    by_cases h0 : b = 0
    · subst h0
      simp [w__law_exchange_0, f1, f2, f3, seg]
    · have hb0 : (0 : Int) < b := by omega
      have hb0' : 0 < b := by omega
      obtain ⟨q, hq⟩ : ∃ q, ((j : Int) + 1).fdiv b = q := ⟨_, rfl⟩
      have hq1 : q = (((j + 1) / b : Nat) : Int) := by
        rw [← hq, Int.fdiv_eq_ediv_of_nonneg _ (by omega)]; rfl
      have hqb : q * b = (((j + 1) / b * b : Nat) : Int) := by rw [hq1]; push_cast; rfl
      have hm : mulOk q b = true := by
        unfold mulOk
        rw [decide_eq_true (p := (b : Int).natAbs < 2 ^ 64) (by omega), Bool.or_true]
      by_cases h1 : (j + 1) / b * b = j + 1
      · have g1 : q * b = (j : Int) + 1 := by rw [hqb, h1]; rfl
        by_cases h2 : j + 1 < N
        · have g2 : (j : Int) + 1 < N := by omega
          simp [w__law_exchange_0, f1, f2, f3, seg, hb0, hb0', hq, hm, h1, h2, g1, g2, h0, bq]
        · have g2 : ¬ (j : Int) + 1 < N := by omega
          simp [w__law_exchange_0, f1, f2, f3, seg, hb0, hb0', hq, hm, h1, h2, g1, g2, h0, bq]
      · have g1 : ¬ q * b = (j : Int) + 1 := by rw [hqb]; omega
        simp [w__law_exchange_0, f1, f2, f3, seg, hb0, hb0', hq, hm, h1, g1, h0, bq]
  · rintro env o' ⟨rfl, x, rfl⟩
    refine ⟨rfl, x, ?_⟩
    rw [rangeD_len, Nat.zero_add]
    rfl
theorem exchange_ok (n : Nat) (ds : List D) (room : Int) (b : Nat) (o : Obs) (hl : ds.length < 60) (hb : b < 4) : Fc (n + 3) "_law_exchange" [.tup ds, .int room, .int b] o = .ok (.lst ((rowM ds.length room b).map .bl)) o := by
  rw [r__law_exchange]
  have e1 := datas_of_ok n ds o (by omega)
  have hn := datasP_nx ds
  have hni : ((datasP ds).length : Int) - 1 = nx ds.length := by omega
  by_cases h7 : 7 < (ds.length : Int) ∧ room < ds.length
  · obtain ⟨h7, hr⟩ := h7
    have : 7 < ds.length := by omega
    simp [m__law_exchange, e1, h7, hr, rowM, this]
  · have hrow : rowM ds.length room b = rowE (nx ds.length) b := by unfold rowM; rw [if_neg (by omega)]
    rw [hrow]
    obtain ⟨N, hN⟩ : ∃ N, nx ds.length = N := ⟨_, rfl⟩
    have hx : N < 9 := by rw [← hN]; unfold nx; split <;> omega
    rw [hN] at hni ⊢
    have hs1 : smallI ((N : Int) + 1) = true := by unfold smallI; exact decide_eq_true (by omega)
    have hs0 : smallI 1 = true := rfl
    have lp := ex_loop n N b (.tup ds) room o hx hb
    have hz : N = 0 ∨ 0 < N := by omega
    by_cases h8 : 7 < (ds.length : Int)
    · have h9 : ¬ room < ds.length := fun z => h7 ⟨h8, z⟩
      rcases hz with hz | hz
      · subst hz
        simp [m__law_exchange, e1, hni, h8, h9, hs1, hs0]
        refine endR_seq (RS.wp_imp lp ?_ (fun _ _ h => h.elim) (fun _ _ h => h.elim) (fun _ _ h => h.elim))
        rintro env o' ⟨rfl, x, rfl⟩
        simp
      · have hz' : (0 : Int) < N := by omega
        simp [m__law_exchange, e1, hni, h8, h9, hs1, hs0, hz, hz']
        have l0 : (rowP N b 0).map D.bl = [.bl true, .bl false] := by unfold rowP; rw [if_pos hz]; rfl
        rw [l0] at lp
        refine endR_seq (RS.wp_imp lp ?_ (fun _ _ h => h.elim) (fun _ _ h => h.elim) (fun _ _ h => h.elim))
        rintro env o' ⟨rfl, x, rfl⟩
        simp
    · rcases hz with hz | hz
      · subst hz
        simp [m__law_exchange, e1, hni, h8, hs1, hs0]
        refine endR_seq (RS.wp_imp lp ?_ (fun _ _ h => h.elim) (fun _ _ h => h.elim) (fun _ _ h => h.elim))
        rintro env o' ⟨rfl, x, rfl⟩
        simp
      · have hz' : (0 : Int) < N := by omega
        simp [m__law_exchange, e1, hni, h8, hs1, hs0, hz, hz']
        have l0 : (rowP N b 0).map D.bl = [.bl true, .bl false] := by unfold rowP; rw [if_pos hz]; rfl
        rw [l0] at lp
        refine endR_seq (RS.wp_imp lp ?_ (fun _ _ h => h.elim) (fun _ _ h => h.elim) (fun _ _ h => h.elim))
        rintro env o' ⟨rfl, x, rfl⟩
        simp

end Mp

set_option Elab.async false
set_option linter.all false
set_option maxRecDepth 100000
namespace Mp
open PySem PySem.Spec PyProof.Rows L2
/-! ### data told to a taker -/
def K2 (pre : Obs) (T : Tkr) (ws : List D) : Obs := pre ++ [.ins "LongTaker" (fsT T), .ls ws]
section
variable (pre : Obs) (T T' : Tkr) (ws ws' : List D)
theorem K2_get (k : Nat) : (K2 pre T ws)[pre.length + k]? = [Ob.ins "LongTaker" (fsT T), .ls ws][k]? := by
  unfold K2; rw [List.getElem?_append_right (by omega)]; congr 1; omega
theorem K2_set (k : Nat) (x : Ob) : (K2 pre T ws).set (pre.length + k) x = pre ++ [Ob.ins "LongTaker" (fsT T), .ls ws].set k x := by
  unfold K2; rw [List.set_append_right _ _ (by omega)]; congr 2; omega
theorem K2_T : insO (K2 pre T ws) "LongTaker" (.obj pre.length) = some (fsT T) := insO_at (K2_get pre T ws 0)
theorem K2_L : lsO (K2 pre T ws) (.obj (pre.length + 1)) = some ws := lsO_at (K2_get pre T ws 1)
theorem K2_setT : setIns (K2 pre T ws) "LongTaker" (.obj pre.length) (fsT T') = K2 pre T' ws := K2_set pre T ws 0 _
theorem K2_setL : setO (K2 pre T ws) (.obj (pre.length + 1)) ws' = K2 pre T ws' := K2_set pre T ws 1 _
end
theorem in_lst (c : Int) (L : List Int) : cmpD .In (.int c) (.lst (L.map .int)) = some (decide (c ∈ L)) := by
  show (if flatD (.int c) && (L.map D.int).all flatD then some ((L.map D.int).any fun y => feqD y (.int c)) else inDeep (.int c) (L.map .int)) = _
  rw [flat_ints, in_ints]; rfl
/-- hearing d once leads from A to B, with a flow or none -/
def Hears (n : Nat) (pre : Obs) (b g : Nat) (d : D) (A B : Tkr → List D → Prop) : Prop :=
  ∀ T ws, A T ws → ∃ r T' ws', Fc (n + 5) "LongTaker.hear" [.obj pre.length, d] (K2 pre T ws) = .ok r (K2 pre T' ws') ∧ (r = .non ∨ r = flD 0 b g) ∧ B T' ws'
def AllFl (b g : Nat) (fl : List D) : Prop := ∀ x ∈ fl, x = flD 0 b g
def addR (fl : List D) (r : D) : List D := if isN r then fl else fl ++ [r]
theorem AllFl.app {b g : Nat} {fl : List D} (h : AllFl b g fl) {r : D} (hr : r = .non ∨ r = flD 0 b g) : AllFl b g (addR fl r) ∧ (addR fl r).length ≤ fl.length + 1 := by
  rcases hr with rfl | rfl
  · exact ⟨h, Nat.le_succ _⟩
  · refine ⟨fun x hx => ?_, by show (fl ++ _).length ≤ _; simp⟩
    rcases List.mem_append.mp (show x ∈ fl ++ [flD 0 b g] from hx) with hx | hx
    · exact h x hx
    · exact List.mem_singleton.mp hx
theorem given_step {n : Nat} {pre : Obs} {b g : Nat} {d : D} {A B : Tkr → List D → Prop} (hd : Hears n pre b g d A B) {datas : List D} {tw fl : List D} {i : Nat} (hi : datas[i]? = some d) (x5 x6 : Sl) {T : Tkr} {ws : List D} (hA : A T ws) (hfl : AllFl b g fl) (hln : fl.length < 1000) {P : Pt}
    (h : ∀ fl' x T' ws', B T' ws' → AllFl b g fl' → fl'.length ≤ fl.length + 1 → P.nx [.v (.obj pre.length), .v (.lst datas), .v (.lst tw), .ol fl', .v (.int i), x5, x] (K2 pre T' ws')) :
    (denSs (Fc (n + 5)) Gl lawM w__law_given_0 [.v (.obj pre.length), .v (.lst datas), .v (.lst tw), .ol fl, .v (.int i), x5, x6] (K2 pre T ws)).wp P := by
  obtain ⟨r, T', ws', hh, hr, hB⟩ := hd T ws hA
  have kt := K2_T pre T ws
  have hix : atI datas (i : Int) = some d := by rw [atI_nat (List.getElem?_eq_some_iff.mp hi).1]; exact hi
  have f1 : fl.length + 1 ≤ 16777216 := by omega
  have f2 : fl.length ≤ 16777216 := by omega
  have h := h (addR fl r) (.v r) T' ws' hB (hfl.app hr).1 (hfl.app hr).2
  rcases hr with hr | hr
  · subst hr
    simp [w__law_given_0, hix, kt, hh, f1, f2]
    exact h
  · subst hr
    have h : P.nx [.v (.obj pre.length), .v (.lst datas), .v (.lst tw), .ol (fl ++ [flD 0 b g]), .v (.int i), x5, .v (flD 0 b g)] (K2 pre T' ws') := h
    unfold flD at h hh
    simp [w__law_given_0, hix, kt, hh, f1, f2]
    exact h
def GJ (pre : Obs) (b g : Nat) (datas : List D) (tw : List Int) (A : Nat → Tkr → List D → Prop) (i : Nat) (env : Env) (o : Obs) : Prop :=
  ∃ fl T ws x4 x5 x6, env = [.v (.obj pre.length), .v (.lst datas), .v (.lst (tw.map .int)), .ol fl, x4, x5, x6] ∧ o = K2 pre T ws ∧ AllFl b g fl ∧ fl.length ≤ 2 * i ∧ A i T ws
def GI (pre : Obs) (b g : Nat) (datas : List D) (tw : List Int) (A B : Tkr → List D → Prop) (j k : Nat) (m : Nat) (env : Env) (o : Obs) : Prop :=
  ∃ fl T ws x5 x6, env = [.v (.obj pre.length), .v (.lst datas), .v (.lst (tw.map .int)), .ol fl, .v (.int (j : Int)), x5, x6] ∧ o = K2 pre T ws ∧ AllFl b g fl ∧ fl.length ≤ k + m ∧ (if m = 0 then A T ws else B T ws)
theorem given_ok {n : Nat} {pre : Obs} {b g : Nat} {datas : List D} {tw : List Int} (A : Nat → Tkr → List D → Prop) {T0 : Tkr} {ws0 : List D} (h0 : A 0 T0 ws0) (hln : datas.length < 100)
    (h1 : ∀ (i : Nat) d, datas[i]? = some d → Hears n pre b g d (A i) (A (i + 1))) (h2 : ∀ (i : Nat) d, datas[i]? = some d → (i : Int) ∈ tw → Hears n pre b g d (A (i + 1)) (A (i + 1))) :
    (Fc (n + 6) "_law_given" [.obj pre.length, .lst datas, .lst (tw.map .int)] (K2 pre T0 ws0)).wp fun d o => ∃ fl T ws, d = .lst fl ∧ AllFl b g fl ∧ fl.length ≤ 2 * datas.length ∧ o = K2 pre T ws ∧ A datas.length T ws := by
  rw [r__law_given]
  refine endR_wp ?_
  have hs : smallI (datas.length : Int) = true := by unfold smallI; exact decide_eq_true (by omega)
  have hs1 : smallI 1 = true := rfl
  have hs2 : smallI 2 = true := rfl
  simp [m__law_given, hs]
  refine RS.wp_seq (forD_wp (GJ pre b g datas tw A) (i := 0) ⟨[], T0, ws0, .un, .un, .un, rfl, rfl, (fun x hx => nomatch hx), by simp, h0⟩ ?_ ?_)
  · rintro j d env o hj ⟨fl, T, ws, x4, x5, x6, rfl, rfl, hfl, hlen, hA⟩
    obtain ⟨hj', rfl⟩ := rangeD_at hj
    have hj2 : j < datas.length := by omega
    refine ⟨_, rfl, ?_⟩
    obtain ⟨d, hd⟩ : ∃ d, datas[j]? = some d := ⟨_, List.getElem?_eq_getElem hj2⟩
    have hin := in_lst (j : Int) tw
    rw [Nat.zero_add] at hA hlen ⊢
    have one := h1 j d hd
    have two := h2 j d hd
    have fin : ∀ m env o, 0 < m → m ≤ 2 → GI pre b g datas tw (A j) (A (j + 1)) j (2 * j) m env o → GJ pre b g datas tw A (j + 1) env o := by
      rintro m env o m0 m2 ⟨fl', T', ws', y5, y6, rfl, rfl, hfl', hlen', hA'⟩
      rw [if_neg (by omega)] at hA'
      exact ⟨fl', T', ws', _, y5, y6, rfl, rfl, hfl', by omega, hA'⟩
    by_cases q : (j : Int) ∈ tw
    · simp [w__law_given_1, hin, q, hs2]
      have e : rangeD 0 2 1 = [.int 0, .int 1] := rfl
      rw [e]
      refine RS.wp_seq (forD_wp (GI pre b g datas tw (A j) (A (j + 1)) j (2 * j)) (i := 0) ⟨fl, T, ws, _, _, rfl, rfl, hfl, hlen, hA⟩ ?_ ?_)
      · rintro m d' env o hm ⟨fl', T', ws', y5, y6, rfl, rfl, hfl', hlen', hA'⟩
        have hm2 : m < 2 := (List.getElem?_eq_some_iff.mp hm).1
        refine ⟨_, rfl, ?_⟩
        rw [Nat.zero_add] at hA' hlen' ⊢
        by_cases m0 : m = 0
        · subst m0
          exact given_step one hd _ _ hA' hfl' (by omega) fun fl2 x T2 ws2 b1 b2 b3 => ⟨fl2, T2, ws2, _, _, rfl, rfl, b2, by omega, b1⟩
        · rw [if_neg m0] at hA'
          exact given_step (two q) hd _ _ hA' hfl' (by omega) fun fl2 x T2 ws2 b1 b2 b3 => ⟨fl2, T2, ws2, _, _, rfl, rfl, b2, by omega, by rw [if_neg (Nat.succ_ne_zero m)]; exact b1⟩
      · intro env o h
        simpa using fin _ env o (by decide) (by decide) h
    · simp [w__law_given_1, hin, q, hs1]
      have e : rangeD 0 1 1 = [.int 0] := rfl
      rw [e]
      refine RS.wp_seq (forD_wp (GI pre b g datas tw (A j) (A (j + 1)) j (2 * j)) (i := 0) ⟨fl, T, ws, _, _, rfl, rfl, hfl, hlen, hA⟩ ?_ ?_)
      · rintro m d' env o hm ⟨fl', T', ws', y5, y6, rfl, rfl, hfl', hlen', hA'⟩
        have hm2 : m < 1 := (List.getElem?_eq_some_iff.mp hm).1
        refine ⟨_, rfl, ?_⟩
        rw [Nat.zero_add] at hA' hlen' ⊢
        have m0 : m = 0 := by omega
        subst m0
        exact given_step one hd _ _ hA' hfl' (by omega) fun fl2 x T2 ws2 b1 b2 b3 => ⟨fl2, T2, ws2, _, _, rfl, rfl, b2, by omega, b1⟩
      · intro env o h
        simpa using fin _ env o (by decide) (by decide) h
  · rintro env o ⟨fl, T, ws, x4, x5, x6, rfl, rfl, hfl, hlen, hA⟩
    rw [rangeD_len] at hA hlen
    simp at hA hlen ⊢
    exact ⟨hfl, hlen, T, ws, rfl, hA⟩

end Mp

set_option Elab.async false
set_option linter.all false
set_option maxRecDepth 100000
namespace Mp
open PySem PySem.Spec PyProof.Rows L2
/-! ### a message told with some left out, some twice -/
structure Base (pre : Obs) (b g : Nat) (T : Tkr) : Prop where
  wh : T.whole = pre.length + 1
  rm : T.room = 99
  bl : T.block = b
  gp : T.gap = g
  bs : Bs T.got
  ln : T.got.length < 100
def Open (ds : List D) (k : Nat) (T : Tkr) : Prop := T.size = .int ds.length ∧ T.got = ds.take (7 * k + 6) ∧ T.number = k ∧ (0 < k → T.last = (ds.drop (7 * (k - 1) + 6)).take 7)
section
variable {n : Nat} {pre : Obs} {b g : Nat} {T : Tkr} {ws ds : List D}
/-- what a next frame does to a taker that has as many -/
theorem h_due (hl : 8 ≤ ds.length) (hl2 : ds.length < 60) (hB : Bs ds) (hb : Base pre b g T) (hw : ws.length < 1000) {k : Nat} (hk : k < ds.length / 7) (ho : Open ds k T) :
    ∃ r T' ws', Fc (n + 5) "LongTaker.hear" [.obj pre.length, partP ds (k + 1)] (K2 pre T ws) = .ok r (K2 pre T' ws') ∧ (r = .non ∨ r = flD 0 b g) ∧ Base pre b g T' ∧ T'.refused = T.refused ∧
      (k + 1 < ds.length / 7 → Open ds (k + 1) T' ∧ ws' = ws) ∧ (k + 1 = ds.length / 7 → T'.size = .non ∧ ws' = ws ++ [.tup ds]) := by
  obtain ⟨o1, o2, o3, o4⟩ := ho
  have k1 : ((k : Int) + 1) % 16 ≠ T.number.fmod 16 := by rw [o3, Int.fmod_eq_emod_of_nonneg _ (by decide)]; omega
  have k2 : ((k : Int) + 1) % 16 = (T.number + 1).fmod 16 := by rw [o3, Int.fmod_eq_emod_of_nonneg _ (by decide)]
  have lg : T.got.length = 7 * k + 6 := by rw [o2, List.length_take]; omega
  have lp : ((ds.drop (7 * k + 6)).take 7).length = min 7 (ds.length - (7 * k + 6)) := by rw [List.length_take, List.length_drop]
  have hT := K2_T pre T ws
  have hL := K2_L pre T ws
  rw [← hb.wh] at hL
  have wnt : (((ds.drop (7 * k + 6)).take 7).length : Int) = if (ds.length : Int) - T.got.length < 7 then (ds.length : Int) - T.got.length else 7 := by
    rw [lg, lp]; split <;> omega
  have gcat : ds.take (7 * (k + 1) + 6) = T.got ++ (ds.drop (7 * k + 6)).take 7 := by
    rw [o2, show 7 * (k + 1) + 6 = 7 * k + 6 + 7 from by omega, List.take_add]
  have bg : Bs (T.got ++ (ds.drop (7 * k + 6)).take 7) := hb.bs.app ((hB.drop _).take 7)
  have lgp : (T.got ++ (ds.drop (7 * k + 6)).take 7).length < 100 := by rw [List.length_append, lg, lp]; omega
  by_cases q : k + 1 = ds.length / 7
  · have hh := t_next (n + 2) _ _ ds k _ _ _ hT hB (by omega) (by omega) (T_next_full (n + 2) _ _ _ _ _ ws _ hT o1 k1 k2 (by rw [lg, lp]; omega) wnt (by rw [lg, lp]; omega) hL hw)
    rw [K2_setT, hb.wh, K2_setL] at hh
    have hcat : T.got ++ (ds.drop (7 * k + 6)).take 7 = ds := by
      rw [o2, List.take_of_length_le (l := ds.drop (7 * k + 6)) (by rw [List.length_drop]; omega), List.take_append_drop]
    rw [hcat] at hh bg lgp
    refine ⟨_, _, _, hh, .inl rfl, ⟨hb.wh, hb.rm, hb.bl, hb.gp, ?_, ?_⟩, rfl, fun z => by omega, fun _ => ⟨rfl, rfl⟩⟩
    · show Bs (T.got ++ _); rw [hcat]; exact bg
    · show (T.got ++ _).length < 100; rw [hcat]; exact lgp
  · have hn := T_next_more (n + 2) _ _ _ _ _ _ hT o1 k1 k2 (by rw [lg, lp]; omega) wnt (by rw [lg, lp]; omega)
    by_cases qf : T.count + 1 = T.block
    · rw [if_pos qf, K2_setT, hb.bl, hb.gp] at hn
      have hh := t_next (n + 2) _ _ ds k _ _ _ hT hB (by omega) (by omega) hn
      exact ⟨_, _, _, hh, .inr rfl, ⟨hb.wh, hb.rm, hb.bl, hb.gp, bg, lgp⟩, rfl, fun _ => ⟨⟨o1, gcat.symm, by show T.number + 1 = _; rw [o3]; rfl, fun _ => rfl⟩, rfl⟩, fun z => absurd z q⟩
    · rw [if_neg qf, K2_setT] at hn
      have hh := t_next (n + 2) _ _ ds k _ _ _ hT hB (by omega) (by omega) hn
      exact ⟨_, _, _, hh, .inl rfl, ⟨hb.wh, hb.rm, hb.bl, hb.gp, bg, lgp⟩, rfl, fun _ => ⟨⟨o1, gcat.symm, by show T.number + 1 = _; rw [o3]; rfl, fun _ => rfl⟩, rfl⟩, fun z => absurd z q⟩
theorem h_shut (hl2 : ds.length < 60) (hB : Bs ds) {k : Nat} (hk : k < ds.length / 7) (hz : T.size = .non) :
    Fc (n + 5) "LongTaker.hear" [.obj pre.length, partP ds (k + 1)] (K2 pre T ws) = .ok .non (K2 pre T ws) :=
  t_next (n + 2) _ _ ds k _ _ _ (K2_T pre T ws) hB (by omega) (by omega) (T_next_none (n + 3) _ _ _ _ _ (K2_T pre T ws) hz)
theorem h_late (hl2 : ds.length < 60) (hB : Bs ds) {k m : Nat} (hk : k < ds.length / 7) (ho : Open ds m T) (hm : m < k) :
    Fc (n + 5) "LongTaker.hear" [.obj pre.length, partP ds (k + 1)] (K2 pre T ws) = .ok .non (K2 pre (leaveT T) ws) := by
  obtain ⟨o1, o2, o3, o4⟩ := ho
  have hn := T_next_bad (n + 2) _ T (((k : Int) + 1) % 16) _ ((ds.drop (7 * k + 6)).take 7) _ (K2_T pre T ws) o1 (by rw [o3, Int.fmod_eq_emod_of_nonneg _ (by decide)]; omega) (by rw [o3, Int.fmod_eq_emod_of_nonneg _ (by decide)]; omega)
  rw [K2_setT] at hn
  exact t_next (n + 2) _ _ ds k _ _ _ (K2_T pre T ws) hB (by omega) (by omega) hn
theorem h_again (hl2 : ds.length < 60) (hB : Bs ds) (hb : Base pre b g T) {k : Nat} (hk : k < ds.length / 7) (ho : Open ds (k + 1) T) :
    ∃ r, Fc (n + 5) "LongTaker.hear" [.obj pre.length, partP ds (k + 1)] (K2 pre T ws) = .ok r (K2 pre T ws) ∧ (r = .non ∨ r = flD 0 b g) := by
  obtain ⟨o1, o2, o3, o4⟩ := ho
  have hn := T_next_dup (n + 2) _ T (((k : Int) + 1) % 16) _ ((ds.drop (7 * k + 6)).take 7) _ (K2_T pre T ws) o1 (by rw [o3, Int.fmod_eq_emod_of_nonneg _ (by decide)]; omega) (by rw [o4 (Nat.succ_pos k)]; rfl) (by rw [o3]; omega) ((hB.drop _).take 7) (by rw [List.length_take]; omega)
  rw [hb.bl, hb.gp] at hn
  refine ⟨_, t_next (n + 2) _ _ ds k _ _ _ (K2_T pre T ws) hB (by omega) (by omega) hn, ?_⟩
  split
  · exact .inr rfl
  · exact .inl rfl
/-- a first frame -/
theorem h_first (hl : 8 ≤ ds.length) (hl2 : ds.length < 60) (hB : Bs ds) (hb : Base pre b g T) (hz : SzOk T) (hr : ¬ repT T ds.length (ds.take 6)) :
    ∃ T', Fc (n + 5) "LongTaker.hear" [.obj pre.length, headP ds] (K2 pre T ws) = .ok (flD 0 b g) (K2 pre T' ws) ∧ Base pre b g T' ∧ Open ds 0 T' ∧ T'.refused = T.refused + (if isN T.size then 0 else 1) := by
  have hh := t_first_new (n + 2) _ T ds _ (K2_T pre T ws) hz hb.bs (by have := hb.ln; omega) hB hl (by omega) hr
  rw [if_neg (by rw [hb.rm]; omega), K2_setT, hb.bl, hb.gp] at hh
  exact ⟨_, hh, ⟨hb.wh, hb.rm, hb.bl, hb.gp, hB.take 6, by show (ds.take 6).length < 100; rw [List.length_take]; omega⟩, ⟨rfl, rfl, rfl, fun z => absurd z (Nat.lt_irrefl 0)⟩, rfl⟩
theorem h_rep (hl : 8 ≤ ds.length) (hl2 : ds.length < 60) (hB : Bs ds) (hb : Base pre b g T) (hz : SzOk T) (hr : repT T ds.length (ds.take 6)) :
    Fc (n + 5) "LongTaker.hear" [.obj pre.length, headP ds] (K2 pre T ws) = .ok (flD 0 b g) (K2 pre T ws) := by
  have hh := t_first_rep (n + 2) _ T ds _ (K2_T pre T ws) hz hb.bs (by have := hb.ln; omega) hB hl (by omega) hr
  rw [hb.bl, hb.gp] at hh
  exact hh
theorem h_alone (hl : ds.length < 8) (hB : Bs ds) (hb : Base pre b g T) (hz : SzOk T) (hw : ws.length < 1000) :
    Fc (n + 5) "LongTaker.hear" [.obj pre.length, .tup (.int ds.length :: ds)] (K2 pre T ws) = .ok .non (K2 pre (leaveT T) (ws ++ [.tup ds])) := by
  have hL := K2_L pre T ws
  rw [← hb.wh] at hL
  have hh := t_alone (n + 2) _ T ds ws _ (K2_T pre T ws) hz hB hl hL hw
  rw [K2_setT, hb.wh, K2_setL] at hh
  exact hh
end
theorem Base.leave {pre : Obs} {b g : Nat} {T : Tkr} (h : Base pre b g T) : Base pre b g (leaveT T) := ⟨h.wh, h.rm, h.bl, h.gp, h.bs, h.ln⟩
theorem datas_at {ds : List D} {m : Nat} {d : D} (h : (datasP ds)[m]? = some d) : (ds.length < 8 ∧ m = 0 ∧ d = .tup (.int ds.length :: ds)) ∨ (8 ≤ ds.length ∧ m = 0 ∧ d = headP ds) ∨ (8 ≤ ds.length ∧ ∃ k, m = k + 1 ∧ k < ds.length / 7 ∧ d = partP ds (k + 1)) := by
  unfold datasP at h
  by_cases hl : ds.length < 8
  · rw [if_pos hl] at h
    cases m with
    | zero => exact .inl ⟨hl, rfl, by simpa using h.symm⟩
    | succ m => simp at h
  · rw [if_neg hl] at h
    cases m with
    | zero => exact .inr (.inl ⟨by omega, rfl, by simpa using h.symm⟩)
    | succ k =>
      refine .inr (.inr ⟨by omega, k, rfl, ?_⟩)
      rw [List.getElem?_cons_succ, List.getElem?_map] at h
      rw [Option.map_eq_some_iff] at h
      obtain ⟨a, ha, rfl⟩ := h
      obtain ⟨h1, h2⟩ := List.getElem?_eq_some_iff.mp ha
      rw [List.length_range] at h1
      rw [List.getElem_range] at h2
      subst h2
      exact ⟨h1, rfl⟩

end Mp

set_option Elab.async false
set_option linter.all false
set_option maxRecDepth 100000
namespace Mp
open PySem PySem.Spec PyProof.Rows L2
def Pf (lf : List Nat) (i : Nat) : Prop := ∀ m, m < i → lf[m]? = some m
theorem Pf.step {lf : List Nat} {i : Nat} (h : Pf lf i) (q : lf[i]? = some i) : Pf lf (i + 1) := fun m hm => by
  by_cases e : m = i
  · subst e; exact q
  · exact h m (by omega)
theorem Pf.not {lf : List Nat} {i m : Nat} (q : lf[i]? = some m) (ne : m ≠ i) : ¬ Pf lf (i + 1) := fun h => by
  have := h i (Nat.lt_succ_self i)
  rw [q] at this
  exact ne (Option.some.inj this)
theorem Pf.not_step {lf : List Nat} {i : Nat} (h : ¬ Pf lf i) : ¬ Pf lf (i + 1) := fun q => h fun m hm => q m (by omega)
/-- how a taker stands to whom i of the frames lf were told -/
def Told (pre : Obs) (ds : List D) (b g : Nat) (lf : List Nat) (i : Nat) (T : Tkr) (ws : List D) : Prop :=
  Base pre b g T ∧ ((0 < i ∧ Pf lf i ∧ i ≤ nx ds.length ∧ Open ds (i - 1) T ∧ ws = []) ∨ (Pf lf i ∧ i = nx ds.length + 1 ∧ T.size = .non ∧ ws = [.tup ds]) ∨ ((i = 0 ∨ ¬ Pf lf i) ∧ T.size = .non ∧ ws = []))
section
variable {n : Nat} {pre : Obs} {b g : Nat} {ds : List D} {lf : List Nat}
theorem told_hear (hl2 : ds.length < 60) (hB : Bs ds) (hlf : ∀ (i m : Nat), lf[i]? = some m → i ≤ m ∧ m ≤ nx ds.length) {i m : Nat} {d : D} (hi : lf[i]? = some m) (hd : (datasP ds)[m]? = some d) :
    Hears n pre b g d (Told pre ds b g lf i) (Told pre ds b g lf (i + 1)) := by
  rintro T ws ⟨hb, h⟩
  obtain ⟨m1, m2⟩ := hlf i m hi
  rcases datas_at hd with ⟨hl, rfl, rfl⟩ | ⟨hl, rfl, rfl⟩ | ⟨hl, k, rfl, hk, rfl⟩
  · -- alone
    have i0 : i = 0 := by omega
    subst i0
    have hnx : nx ds.length = 0 := by unfold nx; rw [if_pos hl]
    rcases h with ⟨h1, _⟩ | ⟨_, h1, _⟩ | ⟨_, h1, rfl⟩
    · omega
    · omega
    · refine ⟨_, _, _, h_alone hl hB hb (.inl h1) (by decide), .inl rfl, hb.leave, .inr (.inl ⟨Pf.step (fun m hm => absurd hm (Nat.not_lt_zero m)) hi, by omega, rfl, rfl⟩)⟩
  · -- the first one
    have i0 : i = 0 := by omega
    subst i0
    have hnx : nx ds.length = ds.length / 7 := by unfold nx; rw [if_neg (by omega)]
    rcases h with ⟨h1, _⟩ | ⟨_, h1, _⟩ | ⟨_, h1, rfl⟩
    · omega
    · omega
    · obtain ⟨T', e, b', o', _⟩ := h_first (n := n) (ws := []) hl hl2 hB hb (.inl h1) (fun z => by have q := z.1; rw [h1] at q; cases q)
      exact ⟨_, _, _, e, .inr rfl, b', .inl ⟨by omega, Pf.step (fun m hm => absurd hm (Nat.not_lt_zero m)) hi, by omega, o', rfl⟩⟩
  · -- a next one
    have hnx : nx ds.length = ds.length / 7 := by unfold nx; rw [if_neg (by omega)]
    rcases h with ⟨h1, h2, h3, h4, rfl⟩ | ⟨_, h1, _⟩ | ⟨h0, h1, rfl⟩
    · by_cases q : k + 1 = i
      · subst q
        obtain ⟨r, T', ws', e, r1, b', _, c1, c2⟩ := h_due (n := n) (ws := []) hl hl2 hB hb (by decide) hk h4
        refine ⟨_, _, _, e, r1, b', ?_⟩
        by_cases z : k + 1 < ds.length / 7
        · obtain ⟨o1, rfl⟩ := c1 z
          exact .inl ⟨by omega, h2.step hi, by omega, o1, rfl⟩
        · obtain ⟨o1, rfl⟩ := c2 (by omega)
          exact .inr (.inl ⟨h2.step hi, by omega, o1, rfl⟩)
      · exact ⟨_, _, _, h_late hl2 hB hk h4 (by omega), .inl rfl, hb.leave, .inr (.inr ⟨.inr (Pf.not hi q), rfl, rfl⟩)⟩
    · omega
    · refine ⟨_, _, _, h_shut hl2 hB hk h1, .inl rfl, hb, .inr (.inr ⟨.inr ?_, h1, rfl⟩)⟩
      rcases h0 with rfl | h0
      · exact Pf.not hi (by omega)
      · exact Pf.not_step h0
theorem told_again (hl : 8 ≤ ds.length) (hl2 : ds.length < 60) (hB : Bs ds) (hlf : ∀ (i m : Nat), lf[i]? = some m → i ≤ m ∧ m ≤ nx ds.length) {i m : Nat} {d : D} (hi : lf[i]? = some m) (hd : (datasP ds)[m]? = some d) :
    Hears n pre b g d (Told pre ds b g lf (i + 1)) (Told pre ds b g lf (i + 1)) := by
  rintro T ws ⟨hb, h⟩
  obtain ⟨m1, m2⟩ := hlf i m hi
  have hnx : nx ds.length = ds.length / 7 := by unfold nx; rw [if_neg (by omega)]
  have hpf : Pf lf (i + 1) → m = i := fun z => by
    have := z i (Nat.lt_succ_self i)
    rw [hi] at this; exact Option.some.inj this
  rcases datas_at hd with ⟨hl', _, _⟩ | ⟨_, rfl, rfl⟩ | ⟨_, k, rfl, hk, rfl⟩
  · omega
  · have i0 : i = 0 := by omega
    subst i0
    rcases h with ⟨h1, h2, h3, h4, rfl⟩ | ⟨_, h1, _⟩ | ⟨h0, _⟩
    · refine ⟨_, _, _, h_rep hl hl2 hB hb (.inr ⟨_, h4.1⟩) ⟨h4.1, h4.2.1, by rw [h4.2.2.1]; rfl⟩, .inr rfl, hb, .inl ⟨h1, h2, h3, h4, rfl⟩⟩
    · omega
    · rcases h0 with h0 | h0
      · omega
      · exact absurd (Pf.step (fun m hm => absurd hm (Nat.not_lt_zero m)) hi) h0
  · rcases h with ⟨h1, h2, h3, h4, rfl⟩ | ⟨h2, h1, h3, rfl⟩ | ⟨h0, h1, rfl⟩
    · have : i = k + 1 := (hpf h2).symm
      subst this
      obtain ⟨r, e, r1⟩ := h_again (n := n) (ws := []) hl2 hB hb hk h4
      exact ⟨_, _, _, e, r1, hb, .inl ⟨h1, h2, h3, h4, rfl⟩⟩
    · exact ⟨_, _, _, h_shut hl2 hB hk h3, .inl rfl, hb, .inr (.inl ⟨h2, h1, h3, rfl⟩)⟩
    · exact ⟨_, _, _, h_shut hl2 hB hk h1, .inl rfl, hb, .inr (.inr ⟨h0, h1, rfl⟩)⟩
/-! ### .. and another message behind it -/
def bump (T0 : Tkr) (es : List D) (x : Int) : Prop := (isN T0.size = true → x = 0) ∧ (isN T0.size = false → (8 ≤ es.length ∧ repT T0 es.length (es.take 6) → x = 0) ∧ (¬ (8 ≤ es.length ∧ repT T0 es.length (es.take 6)) → x = 1))
def Told2 (pre : Obs) (es : List D) (b g : Nat) (T0 : Tkr) (ws0 : List D) (i : Nat) (T : Tkr) (ws : List D) : Prop :=
  Base pre b g T ∧ ((i = 0 ∧ T = T0 ∧ ws = ws0) ∨ (0 < i ∧ (∃ x, bump T0 es x ∧ T.refused = T0.refused + x) ∧ ((i ≤ nx es.length ∧ Open es (i - 1) T ∧ ws = ws0) ∨ (i = nx es.length + 1 ∧ T.size = .non ∧ ws = ws0 ++ [.tup es]))))
theorem told2_hear {es : List D} {T0 : Tkr} {ws0 : List D} (hl2 : es.length < 60) (hB : Bs es) (hw0 : ws0.length < 900) (hz0 : SzOk T0) {i : Nat} {d : D} (hd : (datasP es)[i]? = some d) :
    Hears n pre b g d (Told2 pre es b g T0 ws0 i) (Told2 pre es b g T0 ws0 (i + 1)) := by
  rintro T ws ⟨hb, h⟩
  have hdl := (List.getElem?_eq_some_iff.mp hd).1
  rw [datasP_nx] at hdl
  rcases datas_at hd with ⟨hl, rfl, rfl⟩ | ⟨hl, rfl, rfl⟩ | ⟨hl, k, rfl, hk, rfl⟩
  · have hnx : nx es.length = 0 := by unfold nx; rw [if_pos hl]
    rcases h with ⟨_, rfl, rfl⟩ | ⟨h1, _⟩
    · refine ⟨_, _, _, h_alone hl hB hb hz0 (by omega), .inl rfl, hb.leave, .inr ⟨by omega, ⟨_, ⟨fun z => ?_, fun z => ⟨fun y => by omega, fun _ => ?_⟩⟩, rfl⟩, .inr ⟨by omega, rfl, rfl⟩⟩⟩
      · rw [if_pos z]
      · rw [if_neg (by rw [z]; decide)]
    · omega
  · have hnx : nx es.length = es.length / 7 := by unfold nx; rw [if_neg (by omega)]
    rcases h with ⟨_, rfl, rfl⟩ | ⟨h1, _⟩
    · by_cases hr : repT T es.length (es.take 6)
      · refine ⟨_, _, _, h_rep hl hl2 hB hb hz0 hr, .inr rfl, hb, .inr ⟨by omega, ⟨0, ⟨fun _ => rfl, fun z => ⟨fun _ => rfl, fun y => absurd ⟨hl, hr⟩ y⟩⟩, by omega⟩, .inl ⟨by omega, ⟨hr.1, hr.2.1, by rw [hr.2.2]; rfl, fun z => absurd z (Nat.lt_irrefl 0)⟩, rfl⟩⟩⟩
      · obtain ⟨T', e, b', o', rf⟩ := h_first (n := n) (ws := ws) hl hl2 hB hb hz0 hr
        refine ⟨_, _, _, e, .inr rfl, b', .inr ⟨by omega, ⟨_, ⟨fun z => ?_, fun z => ⟨fun y => absurd y.2 hr, fun _ => ?_⟩⟩, rf⟩, .inl ⟨by omega, o', rfl⟩⟩⟩
        · rw [if_pos z]
        · rw [if_neg (by rw [z]; decide)]
    · omega
  · have hnx : nx es.length = es.length / 7 := by unfold nx; rw [if_neg (by omega)]
    rcases h with ⟨h1, _⟩ | ⟨h1, hx, ⟨h2, h3, rfl⟩ | ⟨h2, _⟩⟩
    · omega
    · obtain ⟨r, T', ws', e, r1, b', rf, c1, c2⟩ := h_due (n := n) (ws := ws) hl hl2 hB hb (by omega) hk h3
      refine ⟨_, _, _, e, r1, b', .inr ⟨by omega, by rw [rf]; exact hx, ?_⟩⟩
      by_cases z : k + 1 < es.length / 7
      · obtain ⟨o1, rfl⟩ := c1 z
        exact .inl ⟨by omega, o1, rfl⟩
      · obtain ⟨o1, rfl⟩ := c2 (by omega)
        exact .inr ⟨by omega, o1, rfl⟩
    · omega
end

end Mp

set_option Elab.async false
set_option linter.all false
set_option maxRecDepth 100000
namespace Mp
open PySem PySem.Spec PyProof.Rows L2
/-! ### waits and patience -/
theorem flat_repl (d : D) : ∀ k : Nat, (List.replicate k [d]).flatten = List.replicate k d
  | 0 => rfl
  | k + 1 => by rw [List.replicate_succ, List.replicate_succ, List.flatten_cons, flat_repl d k]; rfl
theorem mul_tup1 (d : D) {k : Nat} (h : k ≤ 1000000) : mulD (.tup [d]) (.int (k : Int)) = some (.tup (List.replicate k d)) := by
  have h1 : (decide (-(2 ^ 63) ≤ (k : Int) ∧ (k : Int) < 2 ^ 63) && decide ([d].length * (k : Int).toNat ≤ 1000000)) = true := by
    have : (2:Int)^63 = 9223372036854775808 := by decide
    simp; omega
  simp only [mulD]
  rw [if_pos h1, Int.toNat_natCast, flat_repl]
def fiv : List D := List.replicate 20 (.int 5)
theorem fiv_Bs : Bs fiv := fun d hd => ⟨5, List.eq_of_mem_replicate hd, by decide, by decide⟩
theorem fiv_len : fiv.length = 20 := List.length_replicate
theorem mul_fiv : mulD (.tup [.int 5]) (.int 20) = some (.tup fiv) := mul_tup1 (.int 5) (k := 20) (by decide)
def H1 (o : Obs) (s : Snd) : Obs := o ++ [.ins "LongSender" (fsS s)]
def H2 (o : Obs) (s s2 : Snd) : Obs := o ++ [.ins "LongSender" (fsS s), .ins "LongSender" (fsS s2)]
def H4 (o : Obs) (s s2 : Snd) (T : Tkr) (ws : List D) : Obs := o ++ [.ins "LongSender" (fsS s), .ins "LongSender" (fsS s2), .ins "LongTaker" (fsT T), .ls ws]
theorem app_get (o l : Obs) (k : Nat) : (o ++ l)[o.length + k]? = l[k]? := by
  rw [List.getElem?_append_right (by omega)]; congr 1; omega
theorem app_set (o l : Obs) (k : Nat) (x : Ob) : (o ++ l).set (o.length + k) x = o ++ l.set k x := by
  rw [List.set_append_right _ _ (by omega)]; congr 2; omega
section
variable (o : Obs) (s s' s2 s2' : Snd) (T T' : Tkr) (ws : List D)
theorem H1_S : insO (H1 o s) "LongSender" (.obj o.length) = some (fsS s) := insO_at (app_get o _ 0)
theorem H1_set : setIns (H1 o s) "LongSender" (.obj o.length) (fsS s') = H1 o s' := app_set o _ 0 _
theorem H2_S : insO (H2 o s s2) "LongSender" (.obj o.length) = some (fsS s) := insO_at (app_get o _ 0)
theorem H2_S2 : insO (H2 o s s2) "LongSender" (.obj (o.length + 1)) = some (fsS s2) := insO_at (app_get o _ 1)
theorem H2_set2 : setIns (H2 o s s2) "LongSender" (.obj (o.length + 1)) (fsS s2') = H2 o s s2' := app_set o _ 1 _
theorem H4_S : insO (H4 o s s2 T ws) "LongSender" (.obj o.length) = some (fsS s) := insO_at (app_get o _ 0)
theorem H4_S2 : insO (H4 o s s2 T ws) "LongSender" (.obj (o.length + 1)) = some (fsS s2) := insO_at (app_get o _ 1)
theorem H4_T : insO (H4 o s s2 T ws) "LongTaker" (.obj (o.length + 2)) = some (fsT T) := insO_at (app_get o _ 2)
theorem H4_setT : setIns (H4 o s s2 T ws) "LongTaker" (.obj (o.length + 2)) (fsT T') = H4 o s s2 T' ws := app_set o _ 2 _
end
def wt (w t : Int) : Snd := ⟨(datasP fiv).drop 1, true, true, 0, 0, 0, t, w, if 20 < t then .rf else .go⟩
theorem wt_tick (w : Int) {t : Int} (h : t ≤ 20) : tickS (wt w t) = wt w (t + 1) := by
  have e : (wt w t).st.isGo = true := by unfold wt; simp only; rw [if_neg (by omega)]; rfl
  unfold tickS
  rw [if_neg (by rw [e]; simp [wt])]
  have h0 : (if (0 : Int) < 0 - 1 then (0 : Int) - 1 else 0) = 0 := rfl
  simp only [wt, h0, if_true, show ¬ 20 < t from by omega, if_false]
theorem wt_left (w t : Int) : (wt w t).left ≠ [] := datas_ne (ds := fiv) (by rw [fiv_len]; decide) (by rw [fiv_len]; decide)
theorem wt_data (w t : Int) : dataS (wt w t) = .non := by
  unfold dataS wt
  simp
theorem wt_go {w t : Int} (h : t ≤ 20) : (wt w t).st = .go := by unfold wt; simp only; rw [if_neg (by omega)]
def wtR : Snd := { wt 5 0 with st := .rf }
theorem wt_wait {w t : Int} (h : t ≤ 20) (h2 : w ≤ 3) : flowS (wt w t) 1 0 0 = wt (w + 1) 0 := by
  have e := wt_go (w := w) h
  unfold flowS
  rw [if_neg (by rw [e]; simp [wt])]
  have : ¬ 4 < w + 1 := by omega
  simp [wt, this]
theorem wt_last : flowS (wt 4 0) 1 0 0 = wtR := by
  unfold flowS
  rw [if_neg (by simp [wt])]
  simp [wt, wtR]
theorem fiv_sent : sentS (newS fiv) = wt 0 0 := by
  have hne1 : (datasP fiv).drop 1 ≠ [] := wt_left 0 0
  have ht : (datasP fiv).tail = (datasP fiv).drop 1 := by unfold datasP; rw [if_neg (by rw [fiv_len]; decide)]; rfl
  have he : ((datasP fiv).drop 1).isEmpty = false := by
    cases h : (datasP fiv).drop 1 with
    | nil => exact absurd h hne1
    | cons _ _ => rfl
  unfold newS sentS
  simp only [ht, he]
  rfl
/-- a taker that waits in vain -/
def wk (w : Nat) (t : Int) : Tkr := ⟨20, 0, 3, w, if 23 < t then 1 else 0, if 23 < t then .non else .int 20, fiv.take 6, 0, fiv.take 6, 0, t⟩
theorem wk_tick (w : Nat) {t : Int} (h : t ≤ 23) : tickT (wk w t) = wk w (t + 1) := by
  have h1 : ¬ 23 < t := by omega
  by_cases h2 : 23 < t + 1
  · simp [tickT, wk, leaveT, isN, h1, h2]
  · simp [tickT, wk, isN, h1, h2]
def PJ (o : Obs) (i : Nat) (env : Env) (o' : Obs) : Prop := ∃ x2 x4, env = [.v (.obj o.length), .v (headP fiv), x2, .un, x4, .un] ∧ o' = H1 o (wt i 0)
def PI (o : Obs) (i : Nat) (j : Nat) (env : Env) (o' : Obs) : Prop := ∃ x2 x4, env = [.v (.obj o.length), .v (headP fiv), x2, .un, x4, .un] ∧ o' = H1 o (wt i j)
def PK (o : Obs) (i : Nat) (env : Env) (o' : Obs) : Prop := ∃ x2 x4, env = [.v (.obj o.length), .v (headP fiv), x2, .v (.obj (o.length + 1)), x4, .un] ∧ o' = H2 o wtR (wt 0 i)
def PL (o : Obs) (i : Nat) (env : Env) (o' : Obs) : Prop := ∃ x2 x4, env = [.v (.obj o.length), .v (headP fiv), x2, .v (.obj (o.length + 1)), x4, .v (.obj (o.length + 2))] ∧ o' = H4 o wtR (wt 0 21) (wk (o.length + 3) i) []
theorem patient_ok (n : Nat) (o : Obs) : (Fc (n + 8) "_law_patient" [] o).wp fun d o' => d = .bl true ∧ ∃ r, o' = o ++ r := by
  rw [r__law_patient]
  refine endR_wp ?_
  have a1 : insO (o ++ [Ob.ins "LongSender" []]) "LongSender" (.obj o.length) = some [] := insO_at (app_get o _ 0)
  have e1 := S_init_ok (n + 4) _ fiv _ a1 (by rw [fiv_len]; decide)
  have a2 : setIns (o ++ [Ob.ins "LongSender" []]) "LongSender" (.obj o.length) (fsS (newS fiv)) = H1 o (newS fiv) := app_set o _ 0 _
  rw [a2] at e1
  have hdf : datasP fiv = headP fiv :: (datasP fiv).drop 1 := by unfold datasP; rw [if_neg (by rw [fiv_len]; decide)]; rfl
  have ed := fun o => datas_of_ok (n + 5) fiv o (by rw [fiv_len]; decide)
  have eix : atI (datasP fiv) 0 = some (headP fiv) := by rw [hdf]; rfl
  have hne : (newS fiv).left ≠ [] := by show datasP fiv ≠ []; rw [hdf]; exact List.cons_ne_nil _ _
  have hda : dataS (newS fiv) = headP fiv := by
    show dataS ⟨datasP fiv, _, false, 0, 0, 0, 0, 0, .go⟩ = _
    rw [hdf]; rfl
  have f0 := fun o => flow_data_ok (n + 6) 0 0 0 o
  have f1 := fun o => flow_data_ok (n + 6) 1 0 0 o
  have e2 := S_hear_ok (n + 4) _ _ _ (H1_S o (newS fiv)) (w := 0) (b := 0) (g := 0) (by decide) (by decide) (by decide) (by decide) (by decide) (by decide)
  have fl0 : flowS (newS fiv) 0 0 0 = newS fiv := by
    unfold flowS
    rw [if_pos]
    right; intro z; exact absurd z.1 (by decide)
  rw [H1_set, fl0, show (48 : Int) + 0 = 48 from rfl] at e2
  have e3 := S_data_ok (n + 6) _ _ _ (H1_S o (newS fiv)) hne
  rw [hda] at e3
  obtain ⟨hx, hdx, hxB, _, hxl⟩ := datasP_mem fiv_Bs (by rw [fiv_len]; decide) (headP fiv) (by rw [hdf]; exact List.mem_cons_self)
  have hpl := plain_of_Bs hxB (by omega)
  rw [← hdx] at hpl
  have e4 := same_ok (n + 7) (headP fiv) (H1 o (newS fiv)) hpl.1 (by omega)
  have e5 := S_sent_ok (n + 5) _ _ _ (H1_S o (newS fiv)) hne (by rw [hda, hdx]; simp)
  rw [H1_set, fiv_sent] at e5
  have k1 := H1_S o (newS fiv)
  have l1 : H1 o (newS fiv) = o ++ [Ob.ins "LongSender" (fsS (newS fiv))] := rfl
  simp [m__law_patient, mul_fiv, e1, ed, eix, f0, e2, k1, e3, e4, e5]
  have hs4 : smallI 4 = true := rfl
  have hs20 : smallI 20 = true := rfl
  simp [hs4]
  refine RS.wp_seq (forD_wp (PJ o) (i := 0) ⟨_, _, rfl, rfl⟩ ?_ ?_)
  · rintro i d env o' hi ⟨x2, x4, rfl, rfl⟩
    obtain ⟨hi', rfl⟩ := rangeD_at hi
    have hi4 : i < 4 := hi'
    refine ⟨_, rfl, ?_⟩
    rw [Nat.zero_add]
    simp [w__law_patient_1, hs20]
    refine RS.wp_seq (forD_wp (PI o i) (i := 0) ⟨_, _, rfl, rfl⟩ ?_ ?_)
    · rintro j d env o' hj ⟨x2, x4, rfl, rfl⟩
      obtain ⟨hj', rfl⟩ := rangeD_at hj
      have hj20 : j < 20 := hj'
      refine ⟨_, rfl, ?_⟩
      rw [Nat.zero_add]
      have et := S_tick_ok (n + 6) _ _ _ (H1_S o (wt i j))
      rw [H1_set, wt_tick _ (by omega)] at et
      have k2 := H1_S o (wt i j)
      simp [w__law_patient_0, et, k2]
      exact ⟨_, _, rfl, rfl⟩
    · intro env o' h
      have h : PI o i 20 env o' := by rw [rangeD_len] at h; exact h
      obtain ⟨x2, x4, rfl, rfl⟩ := h
      have eh := S_hear_ok (n + 4) _ _ _ (H1_S o (wt i 20)) (w := 1) (b := 0) (g := 0) (by decide) (by decide) (by decide) (by decide) (by decide) (by decide)
      rw [H1_set, wt_wait (by decide) (by omega), show (48 : Int) + 1 = 49 from rfl] at eh
      have k2 := H1_S o (wt i 20)
      have k3 := H1_S o (wt (i + 1) 0)
      have es := S_state_ok (n + 6) _ _ _ k3
      have hd := S_data_ok (n + 6) _ _ _ k3 (wt_left _ _)
      rw [wt_data] at hd
      rw [wt_go (by decide)] at es
      simp [f1, eh, k2, k3, es, hd]
      exact ⟨_, _, rfl, rfl⟩
  · intro env o' h
    have h : PJ o 4 env o' := by rw [rangeD_len] at h; exact h
    obtain ⟨x2, x4, rfl, rfl⟩ := h
    have eh := S_hear_ok (n + 4) _ _ _ (H1_S o (wt 4 0)) (w := 1) (b := 0) (g := 0) (by decide) (by decide) (by decide) (by decide) (by decide) (by decide)
    rw [H1_set, wt_last, show (48 : Int) + 1 = 49 from rfl] at eh
    have k2 := H1_S o (wt 4 0)
    simp [f1, eh, k2]
    have l1r : (H1 o wtR).length = o.length + 1 := by unfold H1; simp
    have b1 : insO (H1 o wtR ++ [Ob.ins "LongSender" []]) "LongSender" (.obj (o.length + 1)) = some [] := insO_at (by unfold H1; rw [List.append_assoc]; exact app_get o _ 1)
    have b2 := S_init_ok (n + 4) _ fiv _ b1 (by rw [fiv_len]; decide)
    have b3 : setIns (H1 o wtR ++ [Ob.ins "LongSender" []]) "LongSender" (.obj (o.length + 1)) (fsS (newS fiv)) = H2 o wtR (newS fiv) := by
      unfold H1; rw [List.append_assoc]; exact app_set o _ 1 _
    rw [b3] at b2
    have b4 := S_sent_ok (n + 5) _ _ _ (H2_S2 o wtR (newS fiv)) hne (by rw [hda, hdx]; simp)
    rw [H2_set2, fiv_sent] at b4
    have k3 := H2_S2 o wtR (newS fiv)
    have hs21 : smallI 21 = true := rfl
    simp [mul_fiv, l1r, b2, b4, k3, hs21]
    refine RS.wp_seq (forD_wp (PK o) (i := 0) ⟨_, _, rfl, rfl⟩ ?_ ?_)
    · rintro j d env o' hj ⟨x2, x4, rfl, rfl⟩
      obtain ⟨hj', rfl⟩ := rangeD_at hj
      have hj21 : j < 21 := hj'
      refine ⟨_, rfl, ?_⟩
      rw [Nat.zero_add]
      have et := S_tick_ok (n + 6) _ _ _ (H2_S2 o wtR (wt 0 j))
      rw [H2_set2, wt_tick _ (by omega)] at et
      have k2 := H2_S2 o wtR (wt 0 j)
      simp [w__law_patient_2, et, k2]
      exact ⟨_, _, rfl, rfl⟩
    · intro env o' h
      have h : ∃ x2 x4, env = [.v (.obj o.length), .v (headP fiv), x2, .v (.obj (o.length + 1)), x4, .un] ∧ o' = H2 o wtR (wt 0 21) := by rw [rangeD_len] at h; exact h
      obtain ⟨x2, x4, rfl, rfl⟩ := h
      have l2r : (H2 o wtR (wt 0 21)).length = o.length + 2 := by unfold H2; simp
      have c1 : insO (H2 o wtR (wt 0 21) ++ [Ob.ins "LongTaker" []]) "LongTaker" (.obj (o.length + 2)) = some [] := insO_at (by unfold H2; rw [List.append_assoc]; exact app_get o _ 2)
      have c2 := T_init_ok (n + 6) _ 20 0 3 _ c1
      have l3r : (H2 o wtR (wt 0 21) ++ [Ob.ins "LongTaker" []]).length = o.length + 3 := by unfold H2; simp
      have c3 : ∀ T, setIns (H2 o wtR (wt 0 21) ++ [Ob.ins "LongTaker" []] ++ [.ls []]) "LongTaker" (.obj (o.length + 2)) (fsT T) = H4 o wtR (wt 0 21) T [] := fun T => by
        unfold H2; rw [List.append_assoc, List.append_assoc]; exact app_set o _ 2 _
      rw [l3r, c3] at c2
      have k4 := H4_T o wtR (wt 0 21) (newTk 20 0 3 (o.length + 3)) []
      have c4 := t_first_new (n + 4) _ _ fiv _ k4 (.inl rfl) (fun d hd => nomatch hd) (by show 0 < 1000; decide) fiv_Bs (by rw [fiv_len]; decide) (by rw [fiv_len]; decide) (fun z => by cases z.1)
      rw [if_neg (by rw [fiv_len]; show ¬ (20 : Int) < 20; decide), H4_setT] at c4
      have c5 : newT (newTk 20 0 3 (o.length + 3)) fiv.length (fiv.take 6) = wk (o.length + 3) 0 := by rw [fiv_len]; rfl
      rw [c5] at c4
      have hs24 : smallI 24 = true := rfl
      simp [l2r, c2, k4, c4, hs24]
      refine RS.wp_seq (forD_wp (PL o) (i := 0) ⟨_, _, rfl, rfl⟩ ?_ ?_)
      · rintro j d env o' hj ⟨x2, x4, rfl, rfl⟩
        obtain ⟨hj', rfl⟩ := rangeD_at hj
        have hj24 : j < 24 := hj'
        refine ⟨_, rfl, ?_⟩
        rw [Nat.zero_add]
        have k2 := H4_T o wtR (wt 0 21) (wk (o.length + 3) j) []
        have et := T_tick_ok (n + 5) _ _ _ k2 (by unfold wk SzOk; simp only; split; exact .inl rfl; exact .inr ⟨_, rfl⟩)
        rw [H4_setT, wk_tick _ (by omega)] at et
        simp [w__law_patient_3, et, k2]
        exact ⟨_, _, rfl, rfl⟩
      · intro env o' h
        have h : ∃ x2 x4, env = [.v (.obj o.length), .v (headP fiv), x2, .v (.obj (o.length + 1)), x4, .v (.obj (o.length + 2))] ∧ o' = H4 o wtR (wt 0 21) (wk (o.length + 3) 24) [] := by rw [rangeD_len] at h; exact h
        obtain ⟨x2, x4, rfl, rfl⟩ := h
        have k5 := H4_S o wtR (wt 0 21) (wk (o.length + 3) 24) []
        have k6 := H4_S2 o wtR (wt 0 21) (wk (o.length + 3) 24) []
        have k7 := H4_T o wtR (wt 0 21) (wk (o.length + 3) 24) []
        have d1 := S_state_ok (n + 6) _ _ _ k5
        have d2 := S_state_ok (n + 6) _ _ _ k6
        have d3 := T_refused_ok (n + 6) _ _ _ k7
        rw [show wtR.st = .rf from rfl] at d1
        rw [show (wt 0 21).st = .rf from rfl] at d2
        rw [show (wk (o.length + 3) 24).refused = 1 from rfl] at d3
        have hr : St.rf.s = "refused" := rfl
        rw [hr] at d1 d2
        have hp : plainD (.tup [.str "refused", .str "refused", .int 1]) = true ∧ depD (.tup [.str "refused", .str "refused", .int 1]) < n + 7 := ⟨by decide +kernel, by show 1 < n + 7; omega⟩
        have d4 := same_ok (n + 7) _ (H4 o wtR (wt 0 21) (wk (o.length + 3) 24) []) hp.1 hp.2
        simp [k5, k6, k7, d1, d2, d3, d4]
        exact ⟨_, rfl⟩

end Mp

set_option Elab.async false
set_option linter.all false
set_option maxRecDepth 100000
namespace Mp
open PySem PySem.Spec PyProof.Rows L2
/-! ### a turn of the law -/
def dropS : Nat → Ss → Ss
  | 0, s => s
  | n + 1, .cons _ r => dropS n r
  | n + 1, .frz _ r => dropS n r
  | _ + 1, .nil => .nil
def fitB (len : Nat) (room : Int) : Bool := decide (len < 8) || decide ((len : Int) ≤ room)
theorem fitB_iff (len : Nat) (room : Int) : fitB len room = true ↔ fitM len room := by
  unfold fitB fitM; simp
section
variable {n : Nat} {ns : List Int} {s : Bx} {r : Obs} {P : Pt} {x2 x3 x4 x5 x6 x7 x8 x9 x10 x11 x12 x13 x14 x15 x16 x17 x18 x19 x20 x21 x22 x23 x24 x25 x26 x27 x28 : Sl}
theorem segA (h : ∀ (ds : List D) (b g : Nat) (room : Int) (s' : Bx), Bs ds → ds.length < 60 → b < 4 → g ≤ 30 → (ds.length : Int) - 1 ≤ room → room ≤ ds.length + 3 →
      (denSs (Fc (n + 8)) Gl lawM (dropS 3 w_law_1) [.v (.loc ns), .v (.obj 1), x2, .v (.int room), x4, x5, x6, x7, x8, x9, x10, x11, .v (.tup ds), .v (.int b), .v (.int g), .v (.lst ((rowM ds.length room b).map .bl)), .v (.bl (fitB ds.length room)), x17, x18, x19, x20, x21, x22, x23, x24, x25, x26, x27, x28] (bx s' r)).wp P) :
    (denSs (Fc (n + 8)) Gl lawM w_law_1 [.v (.loc ns), .v (.obj 1), x2, x3, x4, x5, x6, x7, x8, x9, x10, x11, x12, x13, x14, x15, x16, x17, x18, x19, x20, x21, x22, x23, x24, x25, x26, x27, x28] (bx s r)).wp P := by
  show (denSs (Fc (n + 8)) Gl lawM (.cons _ (.cons _ (.cons _ (dropS 3 w_law_1)))) _ _).wp P
  obtain ⟨ds, s1, e1, hB, hl⟩ := message_ok (n + 5) s r (most := 60) (by decide) (by decide)
  obtain ⟨d1, s2, e2, p2, q2⟩ := draw_ok s1 r (n + 6) (many := 4) (by decide) (by decide)
  obtain ⟨d2, s3, e3, p3, q3⟩ := draw_ok s2 r (n + 6) (many := 3) (by decide) (by decide)
  obtain ⟨d3, s4, e4, p4, q4⟩ := draw_ok s3 r (n + 6) (many := 5) (by decide) (by decide)
  obtain ⟨b, rfl⟩ : ∃ b : Nat, d1 = b := ⟨d1.toNat, by omega⟩
  obtain ⟨g, hg, g30⟩ : ∃ g : Nat, atI [D.int 0, .int 2, .int 30] d2 = some (.int g) ∧ g ≤ 30 := by
    rcases (by omega : d2 = 0 ∨ d2 = 1 ∨ d2 = 2) with rfl | rfl | rfl
    · exact ⟨0, by simp, by omega⟩
    · exact ⟨2, by simp, by omega⟩
    · exact ⟨30, by simp, by omega⟩
  have e5 := exchange_ok (n + 5) ds (ds.length + d3 - 1) b (bx s4 r) (by omega) (by omega)
  have h := h ds b g (ds.length + d3 - 1) s4 hB (by omega) (by omega) g30 (by omega) (by omega)
  unfold fitB at h
  by_cases h8 : (ds.length : Int) < 8
  · have h8' : ds.length < 8 := by omega
    simp [e1, e2, e3, hg, e4, e5, h8]
    simpa [h8'] using h
  · have h8' : ¬ ds.length < 8 := by omega
    simp [e1, e2, e3, hg, e4, e5, h8]
    simpa [h8'] using h
end

end Mp

set_option Elab.async false
set_option linter.all false
set_option maxRecDepth 100000
namespace Mp
open PySem PySem.Spec PyProof.Rows L2
theorem ne_pair (a b : Int) : cmpD .NotEq (.tup [.int a, .int b]) (.tup [.int a, .int b]) = some false := by
  rw [ne_okD (by simp [okD, plainD, plainDs, depD, depDs]) (by simp [okD, plainD, plainDs, depD, depDs])]
  simp [eqvD, eqvDs]
def pB : D → Bool | .bl b => b | _ => false
def pN : D → Bool | .bl b => !b | _ => false
theorem cnt_rows : ∀ N : Fin 9, ∀ b : Fin 4, (((rowE N.val b.val).map D.bl).filter pB).length = 1 + N.val ∧ ((((rowE N.val b.val).map D.bl).filter pN).length : Int) = flF N.val b.val ∧ (0 < N.val → flF N.val b.val = 1 + ((N.val - 1) / b.val : Nat)) := by decide +kernel
theorem tk_eq {m b g : Nat} (hm : m < 60) (hb : b < 4) : (if m < 8 then 0 else ((m / 7 : Nat) : Int) - flowsP m b) * g = tkM m b g := by
  unfold tkM
  by_cases h : m < 8
  · rw [if_pos h, if_pos h, Int.zero_mul]
  · rw [if_neg h, if_neg h, flowsP_eq]
    have hn : nx m = m / 7 := by unfold nx; rw [if_neg h]
    have := (cnt_rows ⟨m / 7, by omega⟩ ⟨b, hb⟩).2.2 (by show 0 < m / 7; omega)
    simp only at this
    rw [hn, this]
    congr 1
    omega
theorem map_id' (l : List D) : l.map (fun d => d) = l := List.map_id' l
section
variable {n : Nat} {ns : List Int} {s : Bx} {r : Obs} {P : Pt} {x2 x3 x4 x5 x6 x7 x8 x9 x10 x11 x12 x13 x14 x15 x16 x17 x18 x19 x20 x21 x22 x23 x24 x25 x26 x27 x28 : Sl} {ds : List D} {b g : Nat} {room : Int}
theorem segB (hB : Bs ds) (hl : ds.length < 60) (hb : b < 4) (hg : g ≤ 30) (h : ∀ x4 r',
      (denSs (Fc (n + 8)) Gl lawM (dropS 6 w_law_1) [.v (.loc ns), .v (.obj 1), x2, .v (.int room), x4, x5, x6, x7, x8, x9, x10, x11, .v (.tup ds), .v (.int b), .v (.int g), .v (.lst ((rowM ds.length room b).map .bl)), .v (.bl (fitB ds.length room)), x17, x18, x19, x20, x21, x22, x23, x24, x25, x26, x27, x28] (bx s r')).wp P) :
    (denSs (Fc (n + 8)) Gl lawM (dropS 3 w_law_1) [.v (.loc ns), .v (.obj 1), x2, .v (.int room), x4, x5, x6, x7, x8, x9, x10, x11, .v (.tup ds), .v (.int b), .v (.int g), .v (.lst ((rowM ds.length room b).map .bl)), .v (.bl (fitB ds.length room)), x17, x18, x19, x20, x21, x22, x23, x24, x25, x26, x27, x28] (bx s r)).wp P := by
  show (denSs (Fc (n + 8)) Gl lawM (.cons _ (.cons _ (.cons _ (dropS 6 w_law_1)))) _ _).wp P
  obtain ⟨d, o', e1, ws, st, t, S, T, rfl, hF, rfl⟩ := R.wp_eq (carried_ok (n := n + 2) (L := []) (room := room) (g := g) (pre := bx s r) hl hB hb hg)
  have e1 : Fc (n + 8) "carried" [.tup ds, .int room, .int b, .int g, .tup []] (bx s r) = .ok (.tup [.tup ws, .str st.s, .int t]) (K3 (bx s r) S T ws) := e1
  have hgood : goodM ds room b g ws st t := by
    rcases hF with ⟨i, hi, _⟩ | ⟨_, h⟩
    · exact absurd hi.2.1 (by simp)
    · exact h
  obtain ⟨r', hr'⟩ : ∃ r', K3 (bx s r) S T ws = bx s r' := ⟨_, rfl⟩
  rw [hr'] at e1
  have h := fun x4 => h x4 r'
  have hpm := plain_of_Bs hB (by omega)
  cases hf : fitB ds.length room with
  | true =>
    obtain ⟨rfl, rfl, rfl⟩ := hgood.1 ((fitB_iff _ _).mp hf)
    rw [show St.s .dn = "done" from rfl] at e1
    have e2 := ticks_needed_ok (n + 5) ds.length b g (bx s r') (by omega) (by omega) (by omega)
    rw [tk_eq hl hb] at e2
    have hp1 : plainD (.tup [.tup [.tup ds], .str "done", .int (tkM ds.length b g)]) = true ∧ depD (.tup [.tup [.tup ds], .str "done", .int (tkM ds.length b g)]) ≤ 3 := by
      have a1 := tupP (ds := [.tup ds]) (k := 1) (by intro e he; rw [List.mem_singleton] at he; subst he; exact hpm) (by show 1 < 16777216; decide)
      refine tupP (k := 2) ?_ (by show 3 < 16777216; decide)
      intro e he
      simp only [List.mem_cons, List.not_mem_nil, or_false] at he
      rcases he with rfl | rfl | rfl
      · exact a1
      · exact ⟨by decide +kernel, by show 0 ≤ 2; decide⟩
      · exact ⟨rfl, by show 0 ≤ 2; decide⟩
    have e3 := same_ok (n + 8) _ (bx s r') hp1.1 (by omega)
    have hnx : nx ds.length < 9 := by unfold nx; split <;> omega
    obtain ⟨c1, c2, _⟩ := cnt_rows ⟨nx ds.length, hnx⟩ ⟨b, hb⟩
    simp only at c1 c2
    have hrow : rowM ds.length room b = rowE (nx ds.length) b := by
      unfold rowM
      rw [if_neg]
      rcases (fitB_iff _ _).mp hf with z | z <;> omega
    have hrl : ((rowE (nx ds.length) b).map D.bl).length < 100 := by
      rw [List.length_map]
      have := rowP_len (nx ds.length) b (nx ds.length)
      have e : rowE (nx ds.length) b = rowP (nx ds.length) b (nx ds.length) := rfl
      rw [e]; omega
    rw [hf] at h
    rw [hrow] at h ⊢
    have h := h
    have ef := frames_needed_ok (n + 7) ds.length (bx s r')
    have ew := flows_needed_ok (n + 6) ds.length b (bx s r') (by omega)
    have efr : (if ds.length < 8 then (1 : Int) else 1 + (ds.length / 7 : Nat)) = ((1 + nx ds.length : Nat) : Int) := by unfold nx; split <;> omega
    rw [efr] at ef
    rw [flowsP_eq, ← c2] at ew
    rw [← c1] at ef
    generalize hR : (rowE (nx ds.length) b).map D.bl = R at *
    have hRb : ∀ d ∈ R, ∃ x, d = .bl x := by
      intro d hd
      rw [← hR] at hd
      obtain ⟨x, _, rfl⟩ := List.mem_map.mp hd
      exact ⟨x, rfl⟩
    simp [e1, e2, e3]
    rw [lcD_map (p := pB) (f := fun d => d) (by simp; omega) (fun d hd => ⟨_, rfl, by obtain ⟨x, rfl⟩ := hRb d hd; simp [pB], fun _ => by simp⟩)]
    simp
    rw [lcD_map (p := pN) (f := fun d => d) (by simp; omega) (fun d hd => ⟨_, rfl, by obtain ⟨x, rfl⟩ := hRb d hd; simp [pN], fun _ => by simp⟩)]
    simp [ef, ew, ne_pair]
    exact h _
  | false =>
    obtain ⟨rfl, rfl, rfl⟩ := hgood.2 (fun z => by rw [(fitB_iff _ _).mpr z] at hf; cases hf)
    rw [show St.s .rf = "refused" from rfl] at e1
    have hd2 : depD (.tup [.tup [], .str "refused", .int 0]) = 2 := by decide +kernel
    have e3 := same_ok (n + 8) (.tup [.tup [], .str "refused", .int 0]) (bx s r') (by decide +kernel) (by rw [hd2]; omega)
    rw [hf] at h
    simp [e1, e3]
    exact h _
end

end Mp

set_option Elab.async false
set_option linter.all false
set_option maxRecDepth 100000
namespace Mp
open PySem PySem.Spec PyProof.Rows L2
theorem inuI_len (x : Int) : ∀ l : List Int, (inuI x l).length ≤ l.length + 1
  | [] => by simp [inuI]
  | y :: ys => by
    unfold inuI
    split
    · simp
    · split
      · simp
      · have := inuI_len x ys
        simp only [List.length_cons]; omega
theorem ssetI_len : ∀ l : List Int, (ssetI l).length ≤ l.length
  | [] => by simp [ssetI]
  | x :: xs => by
    unfold ssetI
    have := inuI_len x (ssetI xs)
    have := ssetI_len xs
    simp only [List.length_cons]; omega
theorem fsts_pairs : ∀ ns : List Int, fstsD (ns.map fun i => .tup [.int i, .int 1]) = some ns
  | [] => rfl
  | i :: ns => by
    rw [List.map_cons]
    show (fstsD (ns.map fun i => .tup [.int i, .int 1])).map (i :: ·) = _
    rw [fsts_pairs ns]; rfl
theorem filter_ints (p : Int → Bool) : ∀ L : List Int, ((L.map D.int).filter fun d => p (iD d)) = (L.filter p).map .int
  | [] => rfl
  | x :: L => by
    rw [List.map_cons, List.filter_cons, List.filter_cons, filter_ints p L]
    show (if p x = true then _ else _) = _
    cases p x <;> rfl
theorem first_head {L : List Int} (hs : L.Pairwise (· < ·)) (h0 : ∀ k ∈ L, 0 ≤ k) {row : List Bool} {i : Nat} (h : IsFirst L row i) : ∃ F, L.filter (fun k => decide (k < (row.length : Int))) = (i : Int) :: F := by
  obtain ⟨h1, h2, h3⟩ := h
  have hm : (i : Int) ∈ L.filter (fun k => decide (k < (row.length : Int))) := List.mem_filter.mpr ⟨h2, decide_eq_true (by omega)⟩
  have hp : (L.filter (fun k => decide (k < (row.length : Int)))).Pairwise (· < ·) := hs.filter _
  cases hF : L.filter (fun k => decide (k < (row.length : Int))) with
  | nil => rw [hF] at hm; cases hm
  | cons a F =>
    rw [hF] at hm hp
    have ha : a ∈ L := (List.mem_filter.mp (show a ∈ L.filter (fun k => decide (k < (row.length : Int))) by rw [hF]; exact List.mem_cons_self)).1
    have ha0 := h0 a ha
    have hle : a ≤ i := by
      rcases List.mem_cons.mp hm with e | e
      · omega
      · exact Int.le_of_lt ((List.pairwise_cons.mp hp).1 _ e)
    have hge : ¬ a < i := fun z => by
      refine h3 a.toNat (by omega) ?_
      rw [Int.toNat_of_nonneg ha0]; exact ha
    exact ⟨F, by rw [show a = (i : Int) from by omega]⟩
theorem none_first {L : List Int} (h0 : ∀ k ∈ L, 0 ≤ k) {row : List Bool} (h : ∀ i, i < row.length → (i : Int) ∉ L) : L.filter (fun k => decide (k < (row.length : Int))) = [] := by
  rw [List.filter_eq_nil_iff]
  intro k hk
  rw [decide_eq_true_eq]
  intro z
  have := h0 k hk
  refine h k.toNat (by omega) ?_
  rw [Int.toNat_of_nonneg this]; exact hk
theorem ne_refused (x : St) : cmpD .NotEq (.str x.s) (.str ("refused" : Str)) = some (match x with | .rf => false | _ => true) := by cases x <;> decide +kernel
theorem ne_done (x : St) : cmpD .NotEq (.str x.s) (.str ("done" : Str)) = some (match x with | .dn => false | _ => true) := by cases x <;> decide +kernel
section
variable {n : Nat} {ns : List Int} {s : Bx} {r : Obs} {P : Pt} {x2 x3 x4 x5 x6 x7 x8 x9 x10 x11 x12 x13 x14 x15 x16 x17 x18 x19 x20 x21 x22 x23 x24 x25 x26 x27 x28 : Sl} {ds : List D} {b g : Nat} {room : Int}
theorem stepC (hB : Bs ds) (hl : ds.length < 60) (hb : b < 4) (hg : g ≤ 30) (h : ∀ x17 x18 x19 s' r',
      P.nx [.v (.loc ns), .v (.obj 1), x2, .v (.int room), x4, x5, x6, x7, x8, x9, x10, x11, .v (.tup ds), .v (.int b), .v (.int g), .v (.lst ((rowM ds.length room b).map .bl)), .v (.bl (fitB ds.length room)), x17, x18, x19, x20, x21, x22, x23, x24, x25, x26, x27, x28] (bx s' r')) :
    (denSs (Fc (n + 8)) Gl lawM w_law_0 [.v (.loc ns), .v (.obj 1), x2, .v (.int room), x4, x5, x6, x7, x8, x9, x10, x11, .v (.tup ds), .v (.int b), .v (.int g), .v (.lst ((rowM ds.length room b).map .bl)), .v (.bl (fitB ds.length room)), x17, x18, x19, x20, x21, x22, x23, x24, x25, x26, x27, x28] (bx s r)).wp P := by
  have hrl : (rowM ds.length room b).length < 100 := by
    have hnx : nx ds.length < 9 := by unfold nx; split <;> omega
    unfold rowM
    split
    · decide
    · have := rowP_len (nx ds.length) b (nx ds.length)
      have e : rowE (nx ds.length) b = rowP (nx ds.length) b (nx ds.length) := rfl
      rw [e]; omega
  generalize hrow : rowM ds.length room b = row at *
  have hlr : (row.map D.bl).length = row.length := List.length_map _
  obtain ⟨d0, s1, e0, p0, q0⟩ := draw_ok s r (n + 6) (many := 2) (by decide) (by decide)
  have hs1 : smallI (1 + d0) = true := by unfold smallI; exact decide_eq_true (by omega)
  generalize henv : ([.v (.loc ns), .v (.obj 1), x2, .v (.int room), x4, x5, x6, x7, x8, x9, x10, x11, .v (.tup ds), .v (.int b), .v (.int g), .v (.lst (row.map .bl)), .v (.bl (fitB ds.length room)), x17, x18, x19, x20, x21, x22, x23, x24, x25, x26, x27, x28] : Env) = env
  have hw : (lcD [28] (.nm 28) (denC (Fc (n + 8)) Gl .none) (denE (Fc (n + 8)) Gl (.tup (.cons (.call "_law_draw" (.cons (.var 1) (.cons (.bin .Add (.bi "len" (.cons (.var 15) .nil)) (.lit (.int 2))) .nil))) (.cons (.lit (.int 1)) .nil)))) env (rangeD 0 (1 + d0).toNat 1) [] (bx s1 r)).wp fun l o => ∃ s' ks, o = bx s' r ∧ l = (ks : List Int).map (fun i => .tup [.int i, .int 1]) ∧ ks.length ≤ 2 ∧ ∀ k ∈ ks, 0 ≤ k := by
    subst henv
    refine lcD_wp (fun i acc o => ∃ s' ks, o = bx s' r ∧ acc = (ks : List Int).map (fun i => .tup [.int i, .int 1]) ∧ ks.length = i ∧ ∀ k ∈ ks, 0 ≤ k) (i := 0) ⟨s1, [], rfl, rfl, rfl, (fun k hk => nomatch hk)⟩ ?_ ?_
    · rintro j d acc o hj ⟨s', ks, rfl, rfl, hlen, h0⟩
      obtain ⟨hj', rfl⟩ := rangeD_at hj
      refine ⟨_, rfl, ?_⟩
      obtain ⟨d3, s3, e3, p3, q3⟩ := draw_ok s' r (n + 6) (many := (row.length : Int) + 2) (by omega) (by omega)
      have : ks.length < 16777216 := by omega
      simp [e3, this]
      refine ⟨⟨s3, rfl⟩, ks ++ [d3], by simp, by simp; omega, fun k hk => ?_⟩
      rcases List.mem_append.mp hk with hk | hk
      · exact h0 k hk
      · rw [List.mem_singleton] at hk; omega
    · rintro acc o ⟨s', ks, rfl, rfl, hlen, h0⟩
      exact ⟨s', ks, rfl, rfl, by rw [hlen, rangeD_len]; omega, h0⟩
  obtain ⟨l, o, hlc, s2, ks, rfl, rfl, hks, hk0⟩ := R.wp_eq hw
  subst henv
  have hsd : sdicD (.lst (ks.map fun i => .tup [.int i, .int 1])) = some (.lst ((ssetI ks).map .int)) := by
    show (fstsD _).bind _ = _
    rw [fsts_pairs]
    show (if ks.length < 64 then _ else _) = _
    rw [if_pos (by omega)]
  have hLs := ssetI_sorted ks
  have hL0 : ∀ k ∈ ssetI ks, 0 ≤ k := fun k hk => hk0 k ((ssetI_mem ks k).mp hk)
  generalize hL : ssetI ks = L at *
  obtain ⟨d, o', e1, ws, st, t, S, T, rfl, hF, rfl⟩ := R.wp_eq (carried_ok (n := n + 2) (L := L) (room := room) (g := g) (pre := bx s2 r) hl hB hb hg)
  rw [hrow] at hF
  have e1 : Fc (n + 8) "carried" [.tup ds, .int room, .int b, .int g, .tup (L.map .int)] (bx s2 r) = .ok (.tup [.tup ws, .str st.s, .int t]) (K3 (bx s2 r) S T ws) := e1
  obtain ⟨r', hr'⟩ : ∃ r', K3 (bx s2 r) S T ws = bx s2 r' := ⟨_, rfl⟩
  rw [hr'] at e1
  have h := fun x17 x18 x19 => h x17 x18 x19 s2 r'
  have hpm := plain_of_Bs hB (by omega)
  have hLl : L.length < 16777216 := by
    rw [← hL]
    have := ssetI_len ks
    omega
  simp [w_law_0, e0, hs1, hlc, hsd]
  rw [lcD_map (p := fun d => decide (iD d < (row.length : Int))) (f := fun d => d) (by simp; omega) (fun d hd => ⟨_, rfl, by obtain ⟨x, _, rfl⟩ := List.mem_map.mp hd; simp [iD]; rfl, fun _ => by simp⟩)]
  rw [filter_ints (fun k => decide (k < (row.length : Int))), map_id']
  rcases hF with ⟨i, hi, rfl, hst⟩ | ⟨hno, hgood⟩
  · obtain ⟨F, hFe⟩ := first_head hLs hL0 hi
    rw [hFe]
    have hFn : ¬ ((F.length : Int) + 1 = 0) := by omega
    have hFn2 : (0 : Int) < (F.length : Int) + 1 := by omega
    have hd0 : depD (.tup []) = 1 := by decide +kernel
    have e3 := same_ok (n + 8) (.tup []) (bx s2 r') (by decide +kernel) (by rw [hd0]; omega)
    have hix : atI (row.map D.bl) (i : Int) = some (.bl (row[i]'hi.1)) := by
      rw [atI_nat (by rw [hlr]; exact hi.1), List.getElem?_map, List.getElem?_eq_getElem hi.1]; rfl
    have hn := ne_refused st
    cases hf : fitB ds.length room with
    | false =>
      rw [hf] at h
      simp [e1, e3, hFn]
      exact h _ _ _
    | true =>
      rw [hf] at h
      cases hb2 : row[i]'hi.1 with
      | true =>
        rw [hb2] at hix
        simp [e1, e3, hFn, hFn2, hix]
        exact h _ _ _
      | false =>
        rw [hb2] at hix
        have hst := hst (by rw [List.getElem?_eq_getElem hi.1, hb2])
        subst hst
        simp [e1, e3, hFn, hFn2, hix, hn]
        exact h _ _ _
  · rw [none_first hL0 hno]
    have hn := ne_refused st
    have hd := ne_done st
    cases hf : fitB ds.length room with
    | true =>
      rw [hf] at h
      obtain ⟨rfl, rfl, rfl⟩ := hgood.1 ((fitB_iff _ _).mp hf)
      have a1 := tupP (ds := [.tup ds]) (k := 1) (by intro e he; rw [List.mem_singleton] at he; subst he; exact hpm) (by show 1 < 16777216; decide)
      have e3 := same_ok (n + 8) (.tup [.tup ds]) (bx s2 r') a1.1 (by omega)
      simp [e1, e3, hd]
      exact h _ _ _
    | false =>
      rw [hf] at h
      obtain ⟨rfl, rfl, rfl⟩ := hgood.2 (fun z => by rw [(fitB_iff _ _).mpr z] at hf; cases hf)
      have hd0 : depD (.tup []) = 1 := by decide +kernel
      have e3 := same_ok (n + 8) (.tup []) (bx s2 r') (by decide +kernel) (by omega)
      simp [e1, e3, hn]
      exact h _ _ _
end

end Mp

set_option Elab.async false
set_option linter.all false
set_option maxRecDepth 100000
namespace Mp
open PySem PySem.Spec PyProof.Rows L2
def natI (l : List Nat) : List Int := l.map fun (k : Nat) => (k : Int)
theorem rangeD_natI (n : Nat) : rangeD 0 n 1 = (natI (List.range n)).map .int := by
  unfold rangeD natI
  rw [List.map_map]
  refine List.map_congr_left fun k _ => ?_
  show D.int (0 + (k : Int) * 1) = D.int (k : Int)
  rw [Int.mul_one, Int.zero_add]
theorem natI_filter (p : Int → Bool) (l : List Nat) : (natI l).filter p = natI (l.filter fun (k : Nat) => p (k : Int)) := by
  unfold natI; rw [List.filter_map]; rfl
theorem mem_natI {l : List Nat} {k : Nat} : (k : Int) ∈ natI l ↔ k ∈ l := by
  unfold natI
  rw [List.mem_map]
  constructor
  · rintro ⟨a, ha, e⟩
    have : a = k := by omega
    rw [← this]; exact ha
  · intro h; exact ⟨k, h, rfl⟩
theorem idx_le {l : List Nat} (hp : l.Pairwise (· < ·)) : ∀ {i m : Nat}, l[i]? = some m → i ≤ m
  | 0, m, _ => Nat.zero_le _
  | i + 1, m, h => by
    obtain ⟨h1, h2⟩ := List.getElem?_eq_some_iff.mp h
    have hi : i < l.length := by omega
    have := idx_le hp (List.getElem?_eq_getElem hi)
    have lt := List.pairwise_iff_getElem.mp hp i (i + 1) hi h1 (Nat.lt_succ_self i)
    omega
theorem notin_lst (c : Int) (L : List Int) : cmpD .NotIn (.int c) (.lst (L.map .int)) = some (!decide (c ∈ L)) := by
  show (inD _ _).map _ = _
  have e := in_lst c L
  rw [show inD (.int c) (.lst (L.map .int)) = some (decide (c ∈ L)) from e]; rfl
section
variable {n : Nat} {ns : List Int} {s : Bx} {r : Obs} {P : Pt} {x2 x3 x4 x5 x6 x7 x8 x9 x10 x11 x12 x13 x14 x15 x16 x17 x18 x19 x20 x21 x22 x23 x24 x25 x26 x27 x28 : Sl} {ds : List D} {b g : Nat} {room : Int} {row fit : Sl}
def CL (ns : List Int) (ds : List D) (b g : Nat) (room : Int) (x2 x4 x6 x7 x8 x9 x10 x11 x20 x21 x22 x23 x24 x25 x26 x27 x28 : Sl) (env : Env) (o : Obs) : Prop := ∃ x5 x17 x18 x19 s' r', env = [.v (.loc ns), .v (.obj 1), x2, .v (.int room), x4, x5, x6, x7, x8, x9, x10, x11, .v (.tup ds), .v (.int b), .v (.int g), .v (.lst ((rowM ds.length room b).map .bl)), .v (.bl (fitB ds.length room)), x17, x18, x19, x20, x21, x22, x23, x24, x25, x26, x27, x28] ∧ o = bx s' r'
theorem segC (hB : Bs ds) (hl : ds.length < 60) (hb : b < 4) (hg : g ≤ 30) (h : ∀ x5 x17 x18 x19 s' r',
      (denSs (Fc (n + 8)) Gl lawM (dropS 7 w_law_1) [.v (.loc ns), .v (.obj 1), x2, .v (.int room), x4, x5, x6, x7, x8, x9, x10, x11, .v (.tup ds), .v (.int b), .v (.int g), .v (.lst ((rowM ds.length room b).map .bl)), .v (.bl (fitB ds.length room)), x17, x18, x19, x20, x21, x22, x23, x24, x25, x26, x27, x28] (bx s' r')).wp P) :
    (denSs (Fc (n + 8)) Gl lawM (dropS 6 w_law_1) [.v (.loc ns), .v (.obj 1), x2, .v (.int room), x4, x5, x6, x7, x8, x9, x10, x11, .v (.tup ds), .v (.int b), .v (.int g), .v (.lst ((rowM ds.length room b).map .bl)), .v (.bl (fitB ds.length room)), x17, x18, x19, x20, x21, x22, x23, x24, x25, x26, x27, x28] (bx s r)).wp P := by
  show (denSs (Fc (n + 8)) Gl lawM (.cons _ (dropS 7 w_law_1)) _ _).wp P
  have hs3 : smallI 3 = true := rfl
  simp [hs3]
  refine RS.wp_seq (forD_wp (fun _ => CL ns ds b g room x2 x4 x6 x7 x8 x9 x10 x11 x20 x21 x22 x23 x24 x25 x26 x27 x28) (i := 0) ⟨_, _, _, _, s, r, rfl, rfl⟩ ?_ ?_)
  · rintro j d env o hj ⟨x5, x17, x18, x19, s', r', rfl, rfl⟩
    obtain ⟨hj', rfl⟩ := rangeD_at hj
    refine ⟨_, rfl, ?_⟩
    exact stepC hB hl hb hg fun y17 y18 y19 s2 r2 => ⟨_, _, _, _, s2, r2, rfl, rfl⟩
  · rintro env o ⟨x5, x17, x18, x19, s', r', rfl, rfl⟩
    exact h _ _ _ _ _ _
theorem segD (hB : Bs ds) (hl : ds.length < 60) (h : ∀ (s' : Bx) (out tw : List Nat), (∀ k ∈ out, k < (datasP ds).length) → (ds.length < 8 → tw = []) →
      (denSs (Fc (n + 8)) Gl lawM (dropS 11 w_law_1) [.v (.loc ns), .v (.obj 1), x2, .v (.int room), x4, x5, .v (.lst ((natI out).map .int)), .v (.lst ((natI tw).map .int)), .v (.lst ((natI ((List.range (datasP ds).length).filter fun k => !decide (k ∈ out))).map .int)), x9, x10, x11, .v (.tup ds), .v (.int b), .v (.int g), row, fit, x17, x18, x19, .v (.lst (datasP ds)), .v (.obj (bx s r).length), x22, x23, x24, x25, x26, x27, x28] (K2 (bx s' r) (newTk 99 b g ((bx s r).length + 1)) [])).wp P) :
    (denSs (Fc (n + 8)) Gl lawM (dropS 7 w_law_1) [.v (.loc ns), .v (.obj 1), x2, .v (.int room), x4, x5, x6, x7, x8, x9, x10, x11, .v (.tup ds), .v (.int b), .v (.int g), row, fit, x17, x18, x19, x20, x21, x22, x23, x24, x25, x26, x27, x28] (bx s r)).wp P := by
  show (denSs (Fc (n + 8)) Gl lawM (.cons _ (.cons _ (.cons _ (.cons _ (dropS 11 w_law_1))))) _ _).wp P
  have e1 := datas_of_ok (n + 6) ds (bx s r) (by omega)
  have a1 : insO (bx s r ++ [Ob.ins "LongTaker" []]) "LongTaker" (.obj (bx s r).length) = some [] := insO_at (app_get (bx s r) _ 0)
  have e2 := T_init_ok (n + 7) _ 99 b g _ a1
  have a2 : (bx s r ++ [Ob.ins "LongTaker" []]).length = (bx s r).length + 1 := by simp
  have a3 : ∀ T, setIns (bx s r ++ [Ob.ins "LongTaker" []] ++ [.ls []]) "LongTaker" (.obj (bx s r).length) (fsT T) = K2 (bx s r) T [] := fun T => by
    rw [List.append_assoc]; exact app_set (bx s r) _ 0 _
  rw [a2, a3] at e2
  obtain ⟨RR, hR⟩ : ∃ RR, ∀ s', K2 (bx s' r) (newTk 99 b g ((bx s r).length + 1)) [] = bx s' RR := ⟨r ++ [Ob.ins "LongTaker" (fsT (newTk 99 b g ((bx s r).length + 1))), .ls []], fun s' => rfl⟩
  rw [hR] at e2
  have h := fun s' out tw h1 h2 => (hR s' ▸ h s' out tw h1 h2 :)
  generalize hob : (bx s r).length = ob at *
  have hN := datasP_nx ds
  have hN9 : nx ds.length < 9 := by unfold nx; split <;> omega
  generalize hD : datasP ds = dts at *
  have hs : smallI (dts.length : Int) = true := by unfold smallI; exact decide_eq_true (by omega)
  -- some are left out
  have hw1 : ∀ (s1 : Bx) (x6 x7 x8 : Sl), (lcD [24] (.nm 24) (denC (Fc (n + 8)) Gl (.some (.cmp .Eq (.call "_law_draw" (.cons (.var 1) (.cons (.lit (.int 9)) .nil))) (.lit (.int 0))))) (denE (Fc (n + 8)) Gl (.var 24)) [.v (.loc ns), .v (.obj 1), x2, .v (.int room), x4, x5, x6, x7, x8, x9, x10, x11, .v (.tup ds), .v (.int b), .v (.int g), row, fit, x17, x18, x19, .v (.lst dts), .v (.obj ob), x22, x23, x24, x25, x26, x27, x28] (rangeD 0 dts.length 1) [] (bx s1 RR)).wp fun l o => ∃ s' out, o = bx s' RR ∧ l = (natI out).map .int ∧ ∀ k ∈ out, k < dts.length := by
    intro s1 x6 x7 x8
    refine lcD_wp (fun i acc o => ∃ s' out, o = bx s' RR ∧ acc = (natI out).map .int ∧ out.length ≤ i ∧ ∀ k ∈ out, k < dts.length) (i := 0) ⟨s1, [], rfl, rfl, Nat.le_refl _, (fun k hk => nomatch hk)⟩ ?_ ?_
    · rintro j d acc o hj ⟨s', out, rfl, rfl, hlen, h0⟩
      obtain ⟨hj', rfl⟩ := rangeD_at hj
      refine ⟨_, rfl, ?_⟩
      obtain ⟨d3, s3, e3, p3, q3⟩ := draw_ok s' RR (n + 6) (many := 9) (by decide) (by decide)
      have hlo : ((natI out).map D.int).length < 16777216 := by unfold natI; simp; omega
      by_cases q : d3 = 0
      · subst q
        simp [e3]
        refine ⟨by simpa using hlo, ⟨s3, rfl⟩, out ++ [j], by simp [natI], by simp; omega, fun k hk => ?_⟩
        rcases List.mem_append.mp hk with hk | hk
        · exact h0 k hk
        · rw [List.mem_singleton] at hk; omega
      · simp [e3, q]
        exact ⟨⟨s3, rfl⟩, out, rfl, by omega, h0⟩
    · rintro acc o ⟨s', out, rfl, rfl, hlen, h0⟩
      exact ⟨s', out, rfl, rfl, h0⟩
  -- some are told twice
  have hw2 : ∀ (s1 : Bx) (x6 x7 x8 : Sl), (lcD [24] (.nm 24) (denC (Fc (n + 8)) Gl (.some (.con (.cons (.cmp .Eq (.call "_law_draw" (.cons (.var 1) (.cons (.lit (.int 3)) .nil))) (.lit (.int 0))) (.cons (.cmp .Gt (.bi "len" (.cons (.var 12) .nil)) (.lit (.int 7))) .nil))))) (denE (Fc (n + 8)) Gl (.var 24)) [.v (.loc ns), .v (.obj 1), x2, .v (.int room), x4, x5, x6, x7, x8, x9, x10, x11, .v (.tup ds), .v (.int b), .v (.int g), row, fit, x17, x18, x19, .v (.lst dts), .v (.obj ob), x22, x23, x24, x25, x26, x27, x28] (rangeD 0 dts.length 1) [] (bx s1 RR)).wp fun l o => ∃ s' tw, o = bx s' RR ∧ l = (natI tw).map .int ∧ (ds.length < 8 → tw = []) := by
    intro s1 x6 x7 x8
    refine lcD_wp (fun i acc o => ∃ s' tw, o = bx s' RR ∧ acc = (natI tw).map .int ∧ tw.length ≤ i ∧ (ds.length < 8 → tw = [])) (i := 0) ⟨s1, [], rfl, rfl, Nat.le_refl _, fun _ => rfl⟩ ?_ ?_
    · rintro j d acc o hj ⟨s', tw, rfl, rfl, hlen, h0⟩
      obtain ⟨hj', rfl⟩ := rangeD_at hj
      refine ⟨_, rfl, ?_⟩
      obtain ⟨d3, s3, e3, p3, q3⟩ := draw_ok s' RR (n + 6) (many := 3) (by decide) (by decide)
      have hlo : ((natI tw).map D.int).length < 16777216 := by unfold natI; simp; omega
      by_cases q : d3 = 0
      · subst q
        by_cases h7 : (7 : Int) < ds.length
        · simp [e3, h7]
          exact ⟨by simpa using hlo, ⟨s3, rfl⟩, tw ++ [j], by simp [natI], by simp; omega, fun z => by omega⟩
        · simp [e3, h7]
          exact ⟨⟨s3, rfl⟩, tw, rfl, by omega, h0⟩
      · simp [e3, q]
        exact ⟨⟨s3, rfl⟩, tw, rfl, by omega, h0⟩
    · rintro acc o ⟨s', tw, rfl, rfl, hlen, h0⟩
      exact ⟨s', tw, rfl, rfl, h0⟩
  obtain ⟨l1, o1, c1, s1, out, rfl, rfl, hout⟩ := R.wp_eq (hw1 s x6 x7 x8)
  obtain ⟨l2, o2, c2, s2, tw, rfl, rfl, htw⟩ := R.wp_eq (hw2 s1 (.v (.lst ((natI out).map .int))) x7 x8)
  have h := h s2 out tw hout htw
  have c3 : lcD [24] (.nm 24) (denC (Fc (n + 8)) Gl (.some (.cmp .NotIn (.var 24) (.var 6)))) (denE (Fc (n + 8)) Gl (.var 24)) [.v (.loc ns), .v (.obj 1), x2, .v (.int room), x4, x5, .v (.lst ((natI out).map .int)), .v (.lst ((natI tw).map .int)), x8, x9, x10, x11, .v (.tup ds), .v (.int b), .v (.int g), row, fit, x17, x18, x19, .v (.lst dts), .v (.obj ob), x22, x23, x24, x25, x26, x27, x28] (rangeD 0 dts.length 1) [] (bx s2 RR) = .ok ((natI ((List.range dts.length).filter fun k => !decide (k ∈ out))).map .int) (bx s2 RR) := by
    rw [lcD_map (p := fun d => !decide (iD d ∈ natI out)) (f := fun d => d) (by rw [rangeD_len]; simp; omega) (fun d hd => ⟨_, rfl, by
      obtain ⟨j, hj⟩ := List.mem_iff_getElem?.mp hd
      obtain ⟨_, rfl⟩ := rangeD_at hj
      have := notin_lst (0 + (j : Int) * 1) (natI out)
      simp at this
      simp [iD, this], fun _ => by simp⟩)]
    rw [map_id', List.nil_append, rangeD_natI, filter_ints (fun k => !decide (k ∈ natI out)), natI_filter]
    congr 4
    funext k
    simp only [mem_natI]
  simp [hob, e1, e2, hs, c1, c2, c3]
  exact h
end

end Mp

set_option Elab.async false
set_option linter.all false
set_option maxRecDepth 100000
namespace Mp
open PySem PySem.Spec PyProof.Rows L2
@[simp] theorem natI_len (l : List Nat) : (natI l).length = l.length := List.length_map _
def lfO (N : Nat) (out : List Nat) : List Nat := (List.range N).filter fun k => !decide (k ∈ out)
theorem lfO_sorted (N : Nat) (out : List Nat) : (lfO N out).Pairwise (· < ·) := List.pairwise_lt_range.filter _
theorem lfO_mem {N : Nat} {out : List Nat} {m : Nat} : m ∈ lfO N out ↔ m < N ∧ m ∉ out := by
  unfold lfO; rw [List.mem_filter, List.mem_range]; simp
theorem lfO_nil (N : Nat) : lfO N [] = List.range N := by unfold lfO; simp
theorem pf_range (N : Nat) : Pf (List.range N) N := fun m hm => by rw [List.getElem?_range hm]
theorem out_nil {N : Nat} {out : List Nat} (hout : ∀ k ∈ out, k < N) (h : Pf (lfO N out) N) : out = [] := by
  cases out with
  | nil => rfl
  | cons a out =>
    have ha := hout a List.mem_cons_self
    have h1 := List.mem_of_getElem? (h a ha)
    exact absurd List.mem_cons_self (lfO_mem.mp h1).2
theorem told_ws {pre : Obs} {ds : List D} {b g : Nat} {out : List Nat} {T : Tkr} {ws : List D} (hout : ∀ k ∈ out, k < 1 + nx ds.length) (h : Told pre ds b g (lfO (1 + nx ds.length) out) (lfO (1 + nx ds.length) out).length T ws) :
    (out = [] → ws = [.tup ds] ∧ T.size = .non) ∧ (out ≠ [] → ws = []) := by
  obtain ⟨_, ⟨h1, h2, h3, h4, rfl⟩ | ⟨h1, h2, h3, rfl⟩ | ⟨h1, h2, rfl⟩⟩ := h
  · refine ⟨fun z => ?_, fun _ => rfl⟩
    subst z
    rw [lfO_nil, List.length_range] at h3; omega
  · refine ⟨fun _ => ⟨rfl, h3⟩, fun z => absurd (out_nil hout ?_) z⟩
    rw [h2, show nx ds.length + 1 = 1 + nx ds.length from Nat.add_comm _ _] at h1; exact h1
  · refine ⟨fun z => ?_, fun _ => rfl⟩
    subst z
    rw [lfO_nil, List.length_range] at h1
    rcases h1 with h1 | h1
    · omega
    · exact absurd (pf_range _) h1
section
variable {n : Nat} {ns : List Int} {s : Bx} {r : Obs} {P : Pt} {x2 x3 x4 x5 x6 x7 x8 x9 x10 x11 x12 x13 x14 x15 x16 x17 x18 x19 x20 x21 x22 x23 x24 x25 x26 x27 x28 : Sl} {ds : List D} {b g : Nat} {room : Int} {row fit : Sl}
theorem segE (hB : Bs ds) (hl : ds.length < 60) {out tw : List Nat} (hout : ∀ k ∈ out, k < (datasP ds).length) (htw : ds.length < 8 → tw = []) (hb : b < 4) (hg : g ≤ 30) (h : ∀ (T : Tkr) (ws : List D) (x9 : Sl), Told (bx s r) ds b g (lfO (datasP ds).length out) (lfO (datasP ds).length out).length T ws →
      (denSs (Fc (n + 8)) Gl lawM (dropS 13 w_law_1) [.v (.loc ns), .v (.obj 1), x2, .v (.int room), x4, x5, .v (.lst ((natI out).map .int)), .v (.lst ((natI tw).map .int)), .v (.lst ((natI (lfO (datasP ds).length out)).map .int)), x9, x10, x11, .v (.tup ds), .v (.int b), .v (.int g), row, fit, x17, x18, x19, .v (.lst (datasP ds)), .v (.obj (bx s r).length), x22, x23, x24, x25, x26, x27, x28] (K2 (bx s r) T ws)).wp P) :
    (denSs (Fc (n + 8)) Gl lawM (dropS 11 w_law_1) [.v (.loc ns), .v (.obj 1), x2, .v (.int room), x4, x5, .v (.lst ((natI out).map .int)), .v (.lst ((natI tw).map .int)), .v (.lst ((natI (lfO (datasP ds).length out)).map .int)), x9, x10, x11, .v (.tup ds), .v (.int b), .v (.int g), row, fit, x17, x18, x19, .v (.lst (datasP ds)), .v (.obj (bx s r).length), x22, x23, x24, x25, x26, x27, x28] (K2 (bx s r) (newTk 99 b g ((bx s r).length + 1)) [])).wp P := by
  show (denSs (Fc (n + 8)) Gl lawM (.cons _ (.cons _ (dropS 13 w_law_1))) _ _).wp P
  have hN := datasP_nx ds
  have hN9 : nx ds.length < 9 := by unfold nx; split <;> omega
  have hsorted := lfO_sorted (datasP ds).length out
  have hlf : ∀ (i m : Nat), (lfO (datasP ds).length out)[i]? = some m → i ≤ m ∧ m ≤ nx ds.length := fun i m hi => by
    refine ⟨idx_le hsorted hi, ?_⟩
    have := (lfO_mem.mp (List.mem_of_getElem? hi)).1
    omega
  have hws := fun T ws => told_ws (pre := bx s r) (b := b) (g := g) (T := T) (ws := ws) (out := out) (ds := ds) (by rw [← hN]; exact hout)
  rw [← hN] at hws
  have hlen : (lfO (datasP ds).length out).length < 10 := by
    have := List.length_filter_le (fun k => !decide (k ∈ out)) (List.range (datasP ds).length)
    rw [List.length_range] at this
    unfold lfO; omega
  obtain ⟨lf, hlfe⟩ : ∃ lf, lfO (datasP ds).length out = lf := ⟨_, rfl⟩
  rw [hlfe] at h hlf hws hlen ⊢
  let f : Nat → D := fun k => ((datasP ds)[k]?).getD .non
  let tw' : List Int := (natI (List.range lf.length)).filter fun k => decide ((((natI lf)[k.toNat]?).getD 0) ∈ natI tw)
  have hgiven := given_ok (n := n + 2) (pre := bx s r) (b := b) (g := g) (datas := lf.map f) (tw := tw') (Told (bx s r) ds b g lf) (T0 := newTk 99 b g ((bx s r).length + 1)) (ws0 := []) ⟨⟨rfl, rfl, rfl, rfl, (fun d hd => nomatch hd), by show 0 < 100; decide⟩, .inr (.inr ⟨.inl rfl, rfl, rfl⟩)⟩ (by rw [List.length_map]; omega)
    (fun i d hd => by
      rw [List.getElem?_map, Option.map_eq_some_iff] at hd
      obtain ⟨m, hm, rfl⟩ := hd
      have hm2 := (hlf i m hm).2
      refine told_hear hl hB hlf hm ?_
      show (datasP ds)[m]? = some (((datasP ds)[m]?).getD .non)
      rw [List.getElem?_eq_getElem (by omega)]; rfl)
    (fun i d hd hi => by
      rw [List.getElem?_map, Option.map_eq_some_iff] at hd
      obtain ⟨m, hm, rfl⟩ := hd
      have hm2 := (hlf i m hm).2
      have h8 : 8 ≤ ds.length := by
        have q := (List.mem_filter.mp hi).2
        rw [decide_eq_true_eq] at q
        apply Nat.le_of_not_lt
        intro z
        rw [htw z] at q
        cases q
      refine told_again h8 hl hB hlf hm ?_
      show (datasP ds)[m]? = some (((datasP ds)[m]?).getD .non)
      rw [List.getElem?_eq_getElem (by omega)]; rfl)
  obtain ⟨d, o', eg, fl, T, ws, rfl, hfl, hfll, rfl, hT⟩ := R.wp_eq hgiven
  rw [List.length_map] at hT hfll
  have h := fun x9 => h T ws x9 hT
  obtain ⟨w1, w2⟩ := hws T ws hT
  obtain ⟨ob, hob⟩ : ∃ ob, (bx s r).length = ob := ⟨_, rfl⟩
  have c4 : ∀ o, lcD [24] (.nm 24) (denC (Fc (n + 8)) Gl .none) (denE (Fc (n + 8)) Gl (.ix (.var 20) (.var 24))) [.v (.loc ns), .v (.obj 1), x2, .v (.int room), x4, x5, .v (.lst ((natI out).map .int)), .v (.lst ((natI tw).map .int)), .v (.lst ((natI lf).map .int)), x9, x10, x11, .v (.tup ds), .v (.int b), .v (.int g), row, fit, x17, x18, x19, .v (.lst (datasP ds)), .v (.obj ob), x22, x23, x24, x25, x26, x27, x28] ((natI lf).map .int) [] o = .ok (lf.map f) o := fun o => by
    rw [lcD_map (p := fun _ => true) (f := fun d => ((datasP ds)[(iD d).toNat]?).getD .non) (by simp; omega) (fun d hd => ⟨_, rfl, by simp, fun _ => by
      obtain ⟨k, hk, rfl⟩ := List.mem_map.mp hd
      obtain ⟨m, hm, rfl⟩ := List.mem_map.mp hk
      obtain ⟨i, hi⟩ := List.mem_iff_getElem?.mp hm
      have hm2 := (hlf i m hi).2
      have ha : atI (datasP ds) (m : Int) = some (((datasP ds)[m]?).getD .non) := by
        rw [atI_nat (by omega), List.getElem?_eq_getElem (by omega)]; rfl
      simp [ha, iD]⟩)]
    rw [filter_true, List.nil_append]
    unfold natI
    rw [List.map_map, List.map_map]
    rfl
  have c5 : ∀ o, lcD [25] (.nm 25) (denC (Fc (n + 8)) Gl (.some (.cmp .In (.ix (.var 8) (.var 25)) (.var 7)))) (denE (Fc (n + 8)) Gl (.var 25)) [.v (.loc ns), .v (.obj 1), x2, .v (.int room), x4, x5, .v (.lst ((natI out).map .int)), .v (.lst ((natI tw).map .int)), .v (.lst ((natI lf).map .int)), x9, x10, x11, .v (.tup ds), .v (.int b), .v (.int g), row, fit, x17, x18, x19, .v (.lst (datasP ds)), .v (.obj ob), x22, x23, x24, x25, x26, x27, x28] (rangeD 0 lf.length 1) [] o = .ok (tw'.map .int) o := fun o => by
    rw [lcD_map (p := fun d => decide ((((natI lf)[(iD d).toNat]?).getD 0) ∈ natI tw)) (f := fun d => d) (by rw [rangeD_len]; simp; omega) (fun d hd => ⟨_, rfl, by
      obtain ⟨j, hj⟩ := List.mem_iff_getElem?.mp hd
      obtain ⟨hj', rfl⟩ := rangeD_at hj
      have hnl : j < (natI lf).length := by rw [natI_len]; exact hj'
      have ha : atI ((natI lf).map D.int) (j : Int) = some (.int ((natI lf)[j]'hnl)) := by
        rw [atI_nat (by rw [List.length_map]; exact hnl), List.getElem?_map, List.getElem?_eq_getElem hnl]; rfl
      have hin := in_lst ((natI lf)[j]'hnl) (natI tw)
      have hz : (0 + (j : Int) * 1) = (j : Int) := by omega
      have hg : ((natI lf)[((j : Int)).toNat]?).getD 0 = (natI lf)[j]'hnl := by
        rw [Int.toNat_natCast, List.getElem?_eq_getElem hnl]; rfl
      rw [hz]
      simp only [iD, hg]
      simp [ha, hin], fun _ => by simp⟩)]
    rw [map_id', List.nil_append, rangeD_natI, filter_ints (fun k => decide ((((natI lf)[k.toNat]?).getD 0) ∈ natI tw))]
  have hs : smallI (lf.length : Int) = true := by unfold smallI; exact decide_eq_true (by omega)
  have kt := K2_T (bx s r) T ws
  have km := T_messages_ok (n + 7) _ _ ws _ kt (by rw [hT.1.wh]; exact K2_L (bx s r) T ws)
  have hpf : plainD (flD 0 b g) = true ∧ depD (flD 0 b g) ≤ 1 := tupP (k := 0) (by
    intro e he
    simp only [List.mem_cons, List.not_mem_nil, or_false] at he
    rcases he with rfl | rfl | rfl <;> exact ⟨rfl, Nat.le_refl _⟩) (by show 3 < 16777216; decide)
  have fw := flow_data_ok (n + 7) 0 b g (K2 (bx s r) T ws)
  have sf := same_ok (n + 8) (flD 0 b g) (K2 (bx s r) T ws) hpf.1 (by omega)
  have hall : ∀ x9, lcD [26] (.nm 26) (denC (Fc (n + 8)) Gl .none) (denE (Fc (n + 8)) Gl (.call "_law_same" (.cons (.var 26) (.cons (.call "flow_data" (.cons (.lit (.int 0)) (.cons (.var 13) (.cons (.var 14) .nil)))) .nil)))) [.v (.loc ns), .v (.obj 1), x2, .v (.int room), x4, x5, .v (.lst ((natI out).map .int)), .v (.lst ((natI tw).map .int)), .v (.lst ((natI lf).map .int)), x9, x10, x11, .v (.tup ds), .v (.int b), .v (.int g), row, fit, x17, x18, x19, .v (.lst (datasP ds)), .v (.obj (bx s r).length), x22, x23, x24, x25, x26, x27, x28] fl [] (K2 (bx s r) T ws) = .ok (fl.map fun _ => .bl true) (K2 (bx s r) T ws) := fun x9 => by
    rw [lcD_map (p := fun _ => true) (f := fun _ => .bl true) (by simp; omega) (fun d hd => ⟨_, rfl, by simp, fun _ => by
      rw [hfl d hd]
      unfold flD at sf ⊢
      simp [fw]
      simpa using sf⟩)]
    rw [filter_true, List.nil_append]
  have hal := all_mapD fl (fun _ => true)
  rw [show (fl.all fun _ => true) = true from List.all_eq_true.mpr fun _ _ => rfl] at hal
  have hpm := plain_of_Bs hB (by omega)
  have h := h (.v (.lst fl))
  have eg : Fc (n + 8) "_law_given" [.obj ob, .lst (lf.map f), .lst (tw'.map .int)] (K2 (bx s r) (newTk 99 b g (ob + 1)) []) = .ok (.lst fl) (K2 (bx s r) T ws) := by rw [← hob]; exact eg
  rw [hob] at *
  clear_value f tw'
  by_cases ho : out = []
  · obtain ⟨rfl, _⟩ := w1 ho
    subst ho
    have a1 := tupP (ds := [.tup ds]) (k := 1) (by intro e he; rw [List.mem_singleton] at he; subst he; exact hpm) (by show 1 < 16777216; decide)
    have e3 := same_ok (n + 8) (.tup [.tup ds]) (K2 (bx s r) T [.tup ds]) a1.1 (by omega)
    simp [c4, c5, hs, eg, km, kt, e3, hall, hal]
    exact h
  · have hz : ¬ ((out.length : Int) = 0) := by
      intro z
      exact ho (List.length_eq_zero_iff.mp (by omega))
    have := w2 ho
    subst this
    have hd0 : depD (.tup []) = 1 := by decide +kernel
    have e3 := same_ok (n + 8) (.tup []) (K2 (bx s r) T []) (by decide +kernel) (by omega)
    simp [c4, c5, hs, eg, km, kt, e3, hall, hal, hz, ho]
    exact h
end

end Mp

set_option Elab.async false
set_option linter.all false
set_option maxRecDepth 100000
namespace Mp
open PySem PySem.Spec PyProof.Rows L2
def hdE (ds : List D) : D := (datasP ds).headD .non
theorem hdE_at (ds : List D) : atI (datasP ds) 0 = some (hdE ds) := by
  have e := atI_nat (l := datasP ds) (k := 0) (by rw [datasP_nx]; omega)
  rw [show ((0 : Nat) : Int) = 0 from rfl] at e
  rw [e]
  unfold hdE datasP
  split <;> rfl
theorem hdE_Bs {ds : List D} (hB : Bs ds) (hl : ds.length < 60) : ∃ x, hdE ds = .tup x ∧ Bs x ∧ x.length ≤ 8 := by
  obtain ⟨x, h1, h2, _, h3⟩ := datasP_mem hB (by omega) (hdE ds) (by unfold hdE datasP; split <;> exact List.mem_cons_self)
  exact ⟨x, h1, h2, h3⟩
theorem head_eq {ds es : List D} (hB : Bs ds) (hE : Bs es) (hl : 8 ≤ ds.length) (hl2 : ds.length < 60) (he : es.length < 60) :
    ∃ q : Bool, cmpD .Eq (hdE es) (hdE ds) = some q ∧ (q = true ↔ 8 ≤ es.length ∧ es.length = ds.length ∧ es.take 6 = ds.take 6) := by
  obtain ⟨x, hx, xB, xl⟩ := hdE_Bs hE he
  obtain ⟨y, hy, yB, yl⟩ := hdE_Bs hB hl2
  refine ⟨_, by rw [hx, hy]; exact eq_okD (xB.ok (by omega)) (yB.ok (by omega)), ?_⟩
  have hd : hdE ds = headP ds := by unfold hdE datasP; rw [if_neg (by omega)]; rfl
  rw [hd] at hy
  have hy' : y = .int (16 + (ds.length : Int) / 256) :: .int ((ds.length : Int) % 256) :: ds.take 6 := by
    unfold headP at hy; exact (D.tup.inj hy).symm
  show eqvDs x y = true ↔ _
  rw [eqv_Bs xB yB]
  by_cases h8 : es.length < 8
  · have : hdE es = .tup (.int es.length :: es) := by unfold hdE datasP; rw [if_pos h8]; rfl
    rw [this] at hx
    have hx' := D.tup.inj hx
    subst hx' hy'
    constructor
    · intro z
      have := (List.cons.inj z).1
      have := D.int.inj this
      omega
    · intro z; omega
  · have : hdE es = headP es := by unfold hdE datasP; rw [if_neg h8]; rfl
    rw [this] at hx
    unfold headP at hx
    have hx' := D.tup.inj hx
    subst hx' hy'
    constructor
    · intro z
      obtain ⟨_, z⟩ := List.cons.inj z
      obtain ⟨z1, z2⟩ := List.cons.inj z
      have := D.int.inj z1
      exact ⟨by omega, by omega, z2⟩
    · rintro ⟨_, z1, z2⟩
      rw [z1, z2]
theorem at_last (fs : List D) (x : D) : atI (fs ++ [x]) (-1) = some x := by
  unfold atI ixN
  rw [if_neg (by decide), if_pos (by simp; omega)]
  simp
  have : (-1 + ((fs.length : Int) + 1)).toNat = fs.length := by omega
  rw [this]; simp
theorem atI_last {l : List D} {x : D} (h : l[l.length - 1]? = some x) : atI l (-1) = some x := by
  have hl : 0 < l.length := by
    have := (List.getElem?_eq_some_iff.mp h).1
    omega
  have e : l = l.dropLast ++ [x] := by
    have hne : l ≠ [] := by intro z; rw [z] at hl; exact absurd hl (Nat.lt_irrefl 0)
    have h1 := List.dropLast_concat_getLast hne
    rw [List.getLast_eq_getElem] at h1
    have h2 := (List.getElem?_eq_some_iff.mp h).2
    rw [h2] at h1
    exact h1.symm
  rw [e]; exact at_last _ _
theorem Told.bx {s s' : Bx} {r : Obs} {ds : List D} {b g : Nat} {lf : List Nat} {i : Nat} {T : Tkr} {ws : List D} (h : Told (bx s r) ds b g lf i T ws) : Told (Mp.bx s' r) ds b g lf i T ws := by
  obtain ⟨⟨h1, h2, h3, h4, h5, h6⟩, h⟩ := h
  exact ⟨⟨h1, h2, h3, h4, h5, h6⟩, h⟩
theorem Pf.last {lf : List Nat} (hs : lf.Pairwise (· < ·)) (h0 : 0 < lf.length) (h : lf[lf.length - 1]? = some (lf.length - 1)) : Pf lf lf.length := by
  have key : ∀ d i : Nat, i + d = lf.length - 1 → lf[i]? = some i := by
    intro d
    induction d with
    | zero => intro i hi; rw [show i = lf.length - 1 from by omega]; exact h
    | succ d ih =>
      intro i hi
      have h1 := ih (i + 1) (by omega)
      obtain ⟨l1, e1⟩ := List.getElem?_eq_some_iff.mp h1
      have hi' : i < lf.length := by omega
      have lt := List.pairwise_iff_getElem.mp hs i (i + 1) hi' l1 (Nat.lt_succ_self i)
      have le := idx_le hs (List.getElem?_eq_getElem hi')
      rw [List.getElem?_eq_getElem hi']
      congr 1; omega
  intro m hm
  exact key (lf.length - 1 - m) m (by omega)
section
variable {n : Nat} {ns : List Int} {s : Bx} {r : Obs} {P : Pt} {x2 x3 x4 x5 x6 x7 x8 x9 x10 x11 x12 x13 x14 x15 x16 x17 x18 x19 x20 x21 x22 x23 x24 x25 x26 x27 x28 : Sl} {ds : List D} {b g : Nat} {room : Int} {row fit : Sl}
/-- the one that is open is told as such -/
theorem segF2 {es : List D} (hB : Bs ds) (hl : ds.length < 60) (hE : Bs es) (hle : es.length < 30) {out : List Nat} (hout : ∀ k ∈ out, k < (datasP ds).length) (hb : b < 4) (hg : g ≤ 30) {T : Tkr} {ws : List D} (hT : Told (bx s r) ds b g (lfO (datasP ds).length out) (lfO (datasP ds).length out).length T ws)
    (h : ∀ (x : Bool), bump T es (if x then 1 else 0) → (denSs (Fc (n + 8)) Gl lawM (dropS 17 w_law_1) [.v (.loc ns), .v (.obj 1), x2, .v (.int room), x4, x5, .v (.lst ((natI out).map .int)), x7, .v (.lst ((natI (lfO (datasP ds).length out)).map .int)), x9, .v (.tup es), .v (.bl x), .v (.tup ds), .v (.int b), .v (.int g), row, fit, x17, x18, x19, .v (.lst (datasP ds)), .v (.obj (bx s r).length), x22, x23, x24, x25, x26, x27, x28] (K2 (bx s r) T ws)).wp P) :
    (denSs (Fc (n + 8)) Gl lawM (dropS 15 w_law_1) [.v (.loc ns), .v (.obj 1), x2, .v (.int room), x4, x5, .v (.lst ((natI out).map .int)), x7, .v (.lst ((natI (lfO (datasP ds).length out)).map .int)), x9, .v (.tup es), x11, .v (.tup ds), .v (.int b), .v (.int g), row, fit, x17, x18, x19, .v (.lst (datasP ds)), .v (.obj (bx s r).length), x22, x23, x24, x25, x26, x27, x28] (K2 (bx s r) T ws)).wp P := by
  show (denSs (Fc (n + 8)) Gl lawM (.cons _ (.cons _ (dropS 17 w_law_1))) _ _).wp P
  have hN := datasP_nx ds
  have hsorted := lfO_sorted (datasP ds).length out
  have hw := told_ws (pre := bx s r) (b := b) (g := g) (T := T) (ws := ws) (out := out) (ds := ds) (by rw [← hN]; exact hout)
  rw [← hN] at hw
  obtain ⟨w1, w2⟩ := hw hT
  have hin0 := in_lst 0 (natI (lfO (datasP ds).length out))
  have hde := datas_of_ok (n + 6) es (K2 (bx s r) T ws) (by omega)
  have hatE := hdE_at es
  have hatD := hdE_at ds
  have hmem0 : (0 : Int) ∈ natI (lfO (datasP ds).length out) ↔ 0 ∈ lfO (datasP ds).length out := by
    have := mem_natI (l := lfO (datasP ds).length out) (k := 0)
    simpa using this
  have hrange : out = [] → lfO (datasP ds).length out = List.range (datasP ds).length := fun z => by rw [z, lfO_nil]
  generalize hlf : lfO (datasP ds).length out = lf at *
  obtain ⟨hbase, hT⟩ := hT
  rcases hT with ⟨h1, h2, h3, h4, _⟩ | hrest
  · -- open
    have hnx : nx ds.length ≠ 0 := by omega
    have h8 : 8 ≤ ds.length := by
      apply Nat.le_of_not_lt
      intro z
      exact hnx (by unfold nx; rw [if_pos z])
    have h7 : (7 : Int) < ds.length := by omega
    have ho : out ≠ [] := fun z => by
      have := congrArg List.length (hrange z)
      rw [List.length_range] at this
      omega
    have hol : 0 < out.length := by
      cases out with
      | nil => exact absurd rfl ho
      | cons a l => simp only [List.length_cons]; omega
    have m0 : (0 : Int) ∈ natI lf := hmem0.mpr (List.mem_of_getElem? (h2 0 h1))
    have hlast : atI ((natI lf).map D.int) (-1) = some (.int ((lf.length : Int) - 1)) := by
      refine atI_last ?_
      rw [List.length_map, natI_len, List.getElem?_map]
      unfold natI
      rw [List.getElem?_map, h2 (lf.length - 1) (by omega)]
      show some (D.int ((lf.length - 1 : Nat) : Int)) = _
      congr 2; omega
    obtain ⟨q, hq, hqi⟩ := head_eq hB hE h8 hl (by omega : es.length < 60)
    have hz : isN T.size = false := by rw [h4.1]; rfl
    have key : (8 ≤ es.length ∧ repT T es.length (es.take 6)) ↔ (lf.length = 1 ∧ q = true) := by
      rw [hqi]
      unfold repT
      rw [h4.1, h4.2.1, h4.2.2.1]
      constructor
      · rintro ⟨a1, a2, a3, a4⟩
        have e1 : lf.length = 1 := by omega
        have a2 := D.int.inj a2
        rw [e1] at a3
        exact ⟨e1, a1, by omega, a3.symm⟩
      · rintro ⟨e1, a1, a2, a3⟩
        rw [e1]
        exact ⟨a1, by rw [a2], a3.symm, rfl⟩
    by_cases hl1 : lf.length = 1
    · have hl1i : (lf.length : Int) = 1 := by omega
      have hb' : bump T es (if !q then 1 else 0) := by
        refine ⟨fun z => (by rw [hz] at z; cases z), fun _ => ⟨fun z => ?_, fun z => ?_⟩⟩
        · rw [(key.mp z).2]; rfl
        · cases hqq : q with
          | true => exact absurd (key.mpr ⟨hl1, hqq⟩) z
          | false => rfl
      have h := h (!q) hb'
      simp [h7, hin0, m0, hol, hlast, hl1, hde, hatE, hatD, hq]
      exact h
    · have hl1i : ¬ (lf.length : Int) = 1 := by omega
      have hb' : bump T es (if true then 1 else 0) := by
        refine ⟨fun z => (by rw [hz] at z; cases z), fun _ => ⟨fun z => absurd (key.mp z).1 hl1, fun z => rfl⟩⟩
      have h := h true hb'
      simp [h7, hin0, m0, hol, hlast, hl1, hl1i]
      exact h
  · have hz : T.size = .non := by rcases hrest with ⟨_, _, h, _⟩ | ⟨_, h, _⟩ <;> exact h
    have hb' : bump T es (if false then 1 else 0) := ⟨fun _ => rfl, fun z => by rw [hz] at z; cases z⟩
    have h := h false hb'
    by_cases h7 : (7 : Int) < ds.length
    · by_cases m0 : (0 : Int) ∈ natI lf
      · by_cases hol : 0 < out.length
        · have ho : out ≠ [] := fun z => by rw [z] at hol; exact absurd hol (by decide)
          have hnp : ¬ Pf lf lf.length := by
            rcases hrest with ⟨a1, a2, _, a4⟩ | ⟨a1, _⟩
            · have := w2 ho
              rw [this] at a4; cases a4
            · rcases a1 with a1 | a1
              · have := hmem0.mp m0
                rw [List.length_eq_zero_iff.mp a1] at this; cases this
              · exact a1
          have hl0 : 0 < lf.length := List.length_pos_of_mem (hmem0.mp m0)
          obtain ⟨z, hzl⟩ : ∃ z, lf[lf.length - 1]? = some z := ⟨_, List.getElem?_eq_getElem (by omega)⟩
          have hzne : z ≠ lf.length - 1 := fun e => hnp (Pf.last hsorted hl0 (by rw [hzl, e]))
          have hlast : atI ((natI lf).map D.int) (-1) = some (.int (z : Int)) := by
            refine atI_last ?_
            rw [List.length_map, natI_len, List.getElem?_map]
            unfold natI
            rw [List.getElem?_map, hzl]; rfl
          have hne : ¬ ((z : Int) = (lf.length : Int) - 1) := by omega
          simp [h7, hin0, m0, hol, hlast, hne]
          exact h
        · simp [h7, hin0, m0, hol]
          exact h
      · simp [h7, hin0, m0]
        exact h
    · simp [h7]
      exact h
end

end Mp

set_option Elab.async false
set_option linter.all false
set_option maxRecDepth 100000
namespace Mp
open PySem PySem.Spec PyProof.Rows L2
section
variable {n : Nat} {ns : List Int} {s : Bx} {r : Obs} {P : Pt} {x2 x3 x4 x5 x6 x7 x8 x9 x10 x11 x12 x13 x14 x15 x16 x17 x18 x19 x20 x21 x22 x23 x24 x25 x26 x27 x28 : Sl} {ds : List D} {b g : Nat} {room : Int} {row fit : Sl}
theorem bump_eq {T : Tkr} {es : List D} {x y : Int} (h1 : bump T es x) (h2 : bump T es y) : x = y := by
  cases hz : isN T.size with
  | true => rw [h1.1 hz, h2.1 hz]
  | false =>
    obtain ⟨a1, a2⟩ := h1.2 hz
    obtain ⟨b1, b2⟩ := h2.2 hz
    by_cases q : 8 ≤ es.length ∧ repT T es.length (es.take 6)
    · rw [a1 q, b1 q]
    · rw [a2 q, b2 q]
theorem segF3 {es : List D} {T : Tkr} {ws : List D} {x : Bool} (hB : Bs ds) (hl : ds.length < 60) (hE : Bs es) (hle : es.length < 30) (hbase : Base (bx s r) b g T) (hz : SzOk T) (hws : ws = [] ∨ ws = [.tup ds]) (hx : bump T es (if x then 1 else 0))
    (h : ∀ s' r', P.nx [.v (.loc ns), .v (.obj 1), x2, x3, x4, x5, x6, x7, x8, x9, .v (.tup es), .v (.bl x), x12, x13, x14, x15, x16, x17, x18, x19, x20, .v (.obj (bx s r).length), .v (.int T.refused), .v (.tup ws), x24, x25, x26, x27, x28] (bx s' r')) :
    (denSs (Fc (n + 8)) Gl lawM (dropS 17 w_law_1) [.v (.loc ns), .v (.obj 1), x2, x3, x4, x5, x6, x7, x8, x9, .v (.tup es), .v (.bl x), x12, x13, x14, x15, x16, x17, x18, x19, x20, .v (.obj (bx s r).length), .v (.int T.refused), .v (.tup ws), x24, x25, x26, x27, x28] (K2 (bx s r) T ws)).wp P := by
  show (denSs (Fc (n + 8)) Gl lawM (.cons _ (.cons _ .nil)) _ _).wp P
  have hN := datasP_nx es
  have hN9 : nx es.length < 9 := by unfold nx; split <;> omega
  have hwl : ws.length < 900 := by
    rcases hws with rfl | rfl
    · decide
    · show 1 < 900; decide
  have hgiven := given_ok (n := n + 2) (pre := bx s r) (b := b) (g := g) (datas := datasP es) (tw := []) (Told2 (bx s r) es b g T ws) (T0 := T) (ws0 := ws) ⟨hbase, .inl ⟨rfl, rfl, rfl⟩⟩ (by omega)
    (fun i d hd => told2_hear (by omega) hE hwl hz hd) (fun i d hd hi => nomatch hi)
  obtain ⟨d, o', eg, fl, T', ws', rfl, hfl, hfll, rfl, hb', hT⟩ := R.wp_eq hgiven
  have hT : (∃ y, bump T es y ∧ T'.refused = T.refused + y) ∧ ws' = ws ++ [.tup es] := by
    rcases hT with ⟨h0, _⟩ | ⟨_, h1, ⟨h2, _⟩ | ⟨_, _, h3⟩⟩
    · omega
    · omega
    · exact ⟨h1, h3⟩
  obtain ⟨⟨y, hy, hrf⟩, rfl⟩ := hT
  have hyx : y = if x then 1 else 0 := bump_eq hy hx
  obtain ⟨r', hr'⟩ : ∃ r', K2 (bx s r) T' (ws ++ [.tup es]) = bx s r' := ⟨_, rfl⟩
  have h := h s r'
  rw [← hr'] at h
  have hde := datas_of_ok (n + 6) es (K2 (bx s r) T ws) (by omega)
  have eg : Fc (n + 8) "_law_given" [.obj (bx s r).length, .lst (datasP es), .lst []] (K2 (bx s r) T ws) = .ok (.lst fl) (K2 (bx s r) T' (ws ++ [.tup es])) := eg
  have kt := K2_T (bx s r) T' (ws ++ [.tup es])
  have km := T_messages_ok (n + 7) _ _ (ws ++ [.tup es]) _ kt (by rw [hb'.wh]; exact K2_L (bx s r) T' _)
  have kr := T_refused_ok (n + 7) _ _ _ kt
  have hpd := plain_of_Bs hB (by omega)
  have hpe := plain_of_Bs hE (by omega)
  have hp := tupP (ds := ws ++ [.tup es]) (k := 1) (by
    intro e he
    rcases List.mem_append.mp he with he | he
    · rcases hws with rfl | rfl
      · cases he
      · rw [List.mem_singleton] at he; subst he; exact hpd
    · rw [List.mem_singleton] at he; subst he; exact hpe) (by rw [List.length_append]; simp only [List.length_cons, List.length_nil]; omega)
  have e1 := same_ok (n + 8) _ (K2 (bx s r) T' (ws ++ [.tup es])) hp.1 (by omega)
  have e2 := same_ok (n + 8) (.int T'.refused) (K2 (bx s r) T' (ws ++ [.tup es])) rfl (by show 0 < n + 8; omega)
  have hsum : ws.length + 1 ≤ 16777216 := by omega
  rw [hrf, hyx] at e2 kr
  generalize hob : (bx s r).length = ob at *
  have ht1 : biD "int" [.bl true] = some (.int 1) := rfl
  have ht0 : biD "int" [.bl false] = some (.int 0) := rfl
  cases x with
  | true =>
    simp only [if_true] at e2 kr
    simp [ht1, ht0, hde, eg, kt, km, kr, e1, hsum, e2]
    exact h
  | false =>
    simp only [Bool.false_eq_true, if_false, Int.add_zero] at e2 kr
    simp [ht1, ht0, hde, eg, kt, km, kr, e1, hsum, e2]
    exact h
theorem turn_ok (h : ∀ x3 x4 x5 x6 x7 x8 x9 x10 x11 x12 x13 x14 x15 x16 x17 x18 x19 x20 x21 x22 x23 x24 x25 x26 x27 x28 s' r', P.nx [.v (.loc ns), .v (.obj 1), x2, x3, x4, x5, x6, x7, x8, x9, x10, x11, x12, x13, x14, x15, x16, x17, x18, x19, x20, x21, x22, x23, x24, x25, x26, x27, x28] (bx s' r')) :
    (denSs (Fc (n + 8)) Gl lawM w_law_1 [.v (.loc ns), .v (.obj 1), x2, x3, x4, x5, x6, x7, x8, x9, x10, x11, x12, x13, x14, x15, x16, x17, x18, x19, x20, x21, x22, x23, x24, x25, x26, x27, x28] (bx s r)).wp P := by
  refine segA fun ds b g room s1 hB hl hb hg hr1 hr2 => ?_
  refine segB hB hl hb hg fun y4 r2 => ?_
  refine segC hB hl hb hg fun y5 y17 y18 y19 s3 r3 => ?_
  refine segD hB hl fun s4 out tw hout htw => ?_
  refine segE (s := s4) (r := r3) hB hl hout htw hb hg fun T ws y9 hT => ?_
  show (denSs (Fc (n + 8)) Gl lawM (.cons _ (.cons _ (dropS 15 w_law_1))) _ _).wp P
  obtain ⟨es, s5, em, hE, hle⟩ := message_ok (n + 5) s4 (r3 ++ [Ob.ins "LongTaker" (fsT T), .ls ws]) (most := 30) (by decide) (by decide)
  have em : Fc (n + 8) "_law_message" [.obj 1, .int 30] (K2 (bx s4 r3) T ws) = .ok (.tup es) (K2 (bx s5 r3) T ws) := em
  have hT5 : Told (bx s5 r3) ds b g (lfO (datasP ds).length out) (lfO (datasP ds).length out).length T ws := hT.bx
  have kt := K2_T (bx s5 r3) T ws
  have km := T_messages_ok (n + 7) _ _ ws _ kt (by rw [hT5.1.wh]; exact K2_L (bx s5 r3) T ws)
  have kr := T_refused_ok (n + 7) _ _ _ kt
  have hob : (bx s4 r3).length = (bx s5 r3).length := rfl
  have hN := datasP_nx ds
  have hw := told_ws (pre := bx s5 r3) (b := b) (g := g) (T := T) (ws := ws) (out := out) (ds := ds) (by rw [← hN]; exact hout)
  rw [← hN] at hw
  obtain ⟨w1, w2⟩ := hw hT5
  have hws : ws = [] ∨ ws = [.tup ds] := by
    by_cases ho : out = []
    · exact .inr (w1 ho).1
    · exact .inl (w2 ho)
  have hz : SzOk T := by
    rcases hT5.2 with ⟨_, _, _, h4, _⟩ | ⟨_, _, h, _⟩ | ⟨_, h, _⟩
    · exact .inr ⟨_, h4.1⟩
    · exact .inl h
    · exact .inl h
  have go := segF2 (n := n) (ns := ns) (P := P) (x2 := x2) (x4 := y4) (x5 := y5) (room := room) (x7 := .v (.lst ((natI tw).map .int))) (x9 := y9) (x11 := x11) (row := .v (.lst ((rowM ds.length room b).map .bl))) (fit := .v (.bl (fitB ds.length room))) (x17 := y17) (x18 := y18) (x19 := y19) (x22 := .v (.int T.refused)) (x23 := .v (.tup ws)) (x24 := x24) (x25 := x25) (x26 := x26) (x27 := x27) (x28 := x28) hB hl hE (by omega) hout hb hg hT5 fun x hx => segF3 hB hl hE (by omega) hT5.1 hz hws hx fun s' r' => h _ _ _ _ _ _ _ _ _ _ _ _ _ _ _ _ _ _ _ _ _ _ _ _ _ _ s' r'
  have hob2 : (bx s3 r3).length = (bx s5 r3).length := rfl
  rw [hob] at *
  generalize hobg : (bx s5 r3).length = ob at *
  simp [em, kt, km, kr]
  exact go
end

end Mp

set_option Elab.async false
set_option linter.all false
set_option maxRecDepth 100000
namespace Mp
open PySem PySem.Spec PyProof.Rows L2
def LJ (ns : List Int) (env : Env) (o : Obs) : Prop := ∃ s r l, List.length l = 27 ∧ env = .v (.loc ns) :: .v (.obj 1) :: l ∧ o = bx s r
theorem list26 : ∀ {l : List Sl}, l.length = 27 → ∃ x2 x3 x4 x5 x6 x7 x8 x9 x10 x11 x12 x13 x14 x15 x16 x17 x18 x19 x20 x21 x22 x23 x24 x25 x26 x27 x28, l = [x2, x3, x4, x5, x6, x7, x8, x9, x10, x11, x12, x13, x14, x15, x16, x17, x18, x19, x20, x21, x22, x23, x24, x25, x26, x27, x28]
  | [a, b, c, d, e, f, g, h, i, j, k, l, m, n, o, p, q, r, s, t, u, v, w, x, y, z, aa], _ => ⟨a, b, c, d, e, f, g, h, i, j, k, l, m, n, o, p, q, r, s, t, u, v, w, x, y, z, aa, rfl⟩
theorem law_ok (n : Nat) (ns : List Int) : (denSs (Fc (n + 8)) Gl lawM m_law [.v (.loc ns), .un, .un, .un, .un, .un, .un, .un, .un, .un, .un, .un, .un, .un, .un, .un, .un, .un, .un, .un, .un, .un, .un, .un, .un, .un, .un, .un, .un] []).wp { nx := fun _ _ => False, rt := fun d _ => d = .bl true } := by
  obtain ⟨s, e1⟩ := box_ok ns (n + 7)
  have hs3 : smallI 3 = true := rfl
  have hne := ne_pair 4 20
  unfold m_law
  simp [e1, hne, hs3]
  refine RS.wp_seq (forD_wp (fun _ => LJ ns) (i := 0) ⟨s, [], [.un, .un, .un, .un, .un, .un, .un, .un, .un, .un, .un, .un, .un, .un, .un, .un, .un, .un, .un, .un, .un, .un, .un, .un, .un, .un, .un], rfl, rfl, rfl⟩ ?_ ?_)
  · rintro j d env o hj ⟨s', r', l, hl, rfl, rfl⟩
    obtain ⟨hj', rfl⟩ := rangeD_at hj
    obtain ⟨x2, x3, x4, x5, x6, x7, x8, x9, x10, x11, x12, x13, x14, x15, x16, x17, x18, x19, x20, x21, x22, x23, x24, x25, x26, x27, x28, rfl⟩ := list26 hl
    refine ⟨_, rfl, ?_⟩
    exact turn_ok fun y3 y4 y5 y6 y7 y8 y9 y10 y11 y12 y13 y14 y15 y16 y17 y18 y19 y20 y21 y22 y23 y24 y25 y26 y27 y28 s2 r2 => ⟨s2, r2, _, rfl, rfl, rfl⟩
  · rintro env o ⟨s', r', l, hl, rfl, rfl⟩
    obtain ⟨d, o', ep, rfl, _⟩ := R.wp_eq (patient_ok n (bx s' r'))
    simp [ep]
theorem law_holds : ∀ ns : List Int, ns.length ≤ 63 → ∃ o, runFn e_law (Q.call lawM lawN) (fun x => Q.gl.lookup x) lawM [.loc ns] [] = .ok (.bl true) o := by
  intro ns _
  have h := R.wp_eq (endR_wp (P := fun d _ => d = .bl true) (RS.wp_imp (law_ok 32 ns) (fun _ _ h => h.elim) (fun _ _ h => h) (fun _ _ h => h) (fun _ _ h => h)))
  obtain ⟨a, o, e, rfl⟩ := h
  refine ⟨o, ?_⟩
  rw [show Q.call lawM lawN = Fc (32 + 8) from (Fc_eq 40).symm]
  exact (runFn_eq (f := e_law) (Φ := Fc (32 + 8)) (G := Gl) (N := lawM) (ds := [.loc ns]) (o := []) rfl).trans e

end Mp

open PySem PySem.W PyProof.Rows
set_option maxRecDepth 100000 in
set_option maxHeartbeats 0 in
theorem PySem.Challenge.cw_wireagreed_k44_whole_long_messages_holds : PySem.Challenge.rw_wireagreed_k44_whole_long_messages.Holds := by
  w_on; o_law; k_head; (case hw => w_witness2)
  k_fill
  refine Mp.law_walk (l := PySem.Challenge.rw_wireagreed_k44_whole_long_messages) (st := Mp.top 37) (e := Mp.e_law) (fs := Mp.fs) (bs := Mp.bs) (cs := Mp.cs) (cds := Mp.cds) (Q := Mp.Q) (n := Mp.lawN) (M := Mp.lawM) rfl rfl rfl ⟨by decide, by decide, by decide⟩ (fun w h Y => PySem.W.kIn_of Y) (by decide +kernel) (by decide +kernel) (by decide +kernel) Mp.d_law Mp.law_holds ?F
  case F =>
    intro w mg h KX G
    refine' Mp.ready_mk KX G (Mp.known ?mpd0a ?mpd0l ?mpd0c ?mpd0k) (Mp.known ?mpd1a ?mpd1l ?mpd1c ?mpd1k) (Mp.known ?mpd2a ?mpd2l ?mpd2c ?mpd2k) (Mp.known ?mpd3a ?mpd3l ?mpd3c ?mpd3k) (Mp.known ?mpd4a ?mpd4l ?mpd4c ?mpd4k) (Mp.known ?mpd5a ?mpd5l ?mpd5c ?mpd5k) (Mp.known ?mpd6a ?mpd6l ?mpd6c ?mpd6k) (Mp.known ?mpd7a ?mpd7l ?mpd7c ?mpd7k) (Mp.known ?mpd8a ?mpd8l ?mpd8c ?mpd8k) (Mp.known ?mpd9a ?mpd9l ?mpd9c ?mpd9k) (Mp.known ?mpd10a ?mpd10l ?mpd10c ?mpd10k) (Mp.known ?mpd11a ?mpd11l ?mpd11c ?mpd11k) (Mp.known ?mpd12a ?mpd12l ?mpd12c ?mpd12k) (Mp.known ?mpd13a ?mpd13l ?mpd13c ?mpd13k) (Mp.known ?mpd14a ?mpd14l ?mpd14c ?mpd14k) (Mp.known ?mpd15a ?mpd15l ?mpd15c ?mpd15k) (Mp.known ?mpd16a ?mpd16l ?mpd16c ?mpd16k) (Mp.known ?mpd17a ?mpd17l ?mpd17c ?mpd17k) (Mp.known ?mpd18a ?mpd18l ?mpd18c ?mpd18k) (Mp.known ?mpd19a ?mpd19l ?mpd19c ?mpd19k) (Mp.known ?mpd20a ?mpd20l ?mpd20c ?mpd20k) (Mp.gc ?mpg0a ?mpg0v) (Mp.gc ?mpg1a ?mpg1v) (Mp.gc ?mpg2a ?mpg2v) (Mp.gc ?mpg3a ?mpg3v) (Mp.gc ?mpg4a ?mpg4v) (Mp.gc ?mpg5a ?mpg5v) (Mp.gc ?mpg6a ?mpg6v) (Mp.gc ?mpg7a ?mpg7v) (Mp.gc ?mpg8a ?mpg8v) (Mp.gc ?mpg9a ?mpg9v) (Mp.gc ?mpg10a ?mpg10v) (Mp.gc ?mpg11a ?mpg11v) ?mpb0 ?mpb1 ?mpb2 ?mpb3 ?mpb4 ?mpb5 ?mpb6 ?mpb7 ?mpb8 ?mpb9 ?mpb10 ?mpb11 ?mpb12 ?mpb13 ?mpb14 ?mpb15 ?mpb16 ?mpb17 ?mpb18 ?mpb19 ?mpb20 ?mpb21 ?mpb22 ?mpb23 ?mpb24 ?mpb25 ?mpb26 ?mpb27 ?mpb28 ?mpb29 ?mpb30 ?mpb31 ?mpb32 ?mpb33 ?mpb34 ?mpb35 ?mpb36 ?mpb37 ?mpb38 ?mpb39 ?mpb40 ?mpb41 ?mpb42 ?mpb43 ?mpb44 ?mpb45 ⟨?mpe0ns, ⟨?mpe0pg, ?mpe0hd, ?mpe0po, ?mpe0sa⟩⟩ ?mpe0mk ?mpe0kp ⟨?mpe1ns, ⟨?mpe1pg, ?mpe1hd, ?mpe1po, ?mpe1sa⟩⟩ ?mpe1mk ?mpe1kp (Mp.inC ?mpq0a ?mpq0i ?mpq0k ?mpq0l ?mpq0c) (Mp.inC ?mpq1a ?mpq1i ?mpq1k ?mpq1l ?mpq1c) (Mp.inC ?mpq2a ?mpq2i ?mpq2k ?mpq2l ?mpq2c) (Mp.inC ?mpq3a ?mpq3i ?mpq3k ?mpq3l ?mpq3c) (Mp.inC ?mpq4a ?mpq4i ?mpq4k ?mpq4l ?mpq4c) (Mp.inC ?mpq5a ?mpq5i ?mpq5k ?mpq5l ?mpq5c) (Mp.inC ?mpq6a ?mpq6i ?mpq6k ?mpq6l ?mpq6c) (Mp.inC ?mpq7a ?mpq7i ?mpq7k ?mpq7l ?mpq7c) (Mp.inC ?mpq8a ?mpq8i ?mpq8k ?mpq8l ?mpq8c) (Mp.inC ?mpq9a ?mpq9i ?mpq9k ?mpq9l ?mpq9c) (Mp.inC ?mpq10a ?mpq10i ?mpq10k ?mpq10l ?mpq10c) (Mp.inC ?mpq11a ?mpq11i ?mpq11k ?mpq11l ?mpq11c) (Mp.inC ?mpq12a ?mpq12i ?mpq12k ?mpq12l ?mpq12c) ?mpf0 ?mpf1 ?mpf2 ?mpf3 ?mpf4 ?mpf5 ?mpf6 ?mpf7 ?mpf8 ?mpf9 ?mpf10 ?mpf11 ?mpf12 ?mpf13 ?mpf14 ?mpf15 ?mpf16 ?mpf17 ?mpf18 ?mpf19
    (case mpd0a => k_is); (case mpd0l => k_is); (case mpd0c => k_is); (case mpd0k => k_is)
    (case mpd1a => k_is); (case mpd1l => k_is); (case mpd1c => k_is); (case mpd1k => k_is)
    (case mpd2a => k_is); (case mpd2l => k_is); (case mpd2c => k_is); (case mpd2k => k_is)
    (case mpd3a => k_is); (case mpd3l => k_is); (case mpd3c => k_is); (case mpd3k => k_is)
    (case mpd4a => k_is); (case mpd4l => k_is); (case mpd4c => k_is); (case mpd4k => k_is)
    (case mpd5a => k_is); (case mpd5l => k_is); (case mpd5c => k_is); (case mpd5k => k_is)
    (case mpd6a => k_is); (case mpd6l => k_is); (case mpd6c => k_is); (case mpd6k => k_is)
    (case mpd7a => k_is); (case mpd7l => k_is); (case mpd7c => k_is); (case mpd7k => k_is)
    (case mpd8a => k_is); (case mpd8l => k_is); (case mpd8c => k_is); (case mpd8k => k_is)
    (case mpd9a => k_is); (case mpd9l => k_is); (case mpd9c => k_is); (case mpd9k => k_is)
    (case mpd10a => k_is); (case mpd10l => k_is); (case mpd10c => k_is); (case mpd10k => k_is)
    (case mpd11a => k_is); (case mpd11l => k_is); (case mpd11c => k_is); (case mpd11k => k_is)
    (case mpd12a => k_is); (case mpd12l => k_is); (case mpd12c => k_is); (case mpd12k => k_is)
    (case mpd13a => k_is); (case mpd13l => k_is); (case mpd13c => k_is); (case mpd13k => k_is)
    (case mpd14a => k_is); (case mpd14l => k_is); (case mpd14c => k_is); (case mpd14k => k_is)
    (case mpd15a => k_is); (case mpd15l => k_is); (case mpd15c => k_is); (case mpd15k => k_is)
    (case mpd16a => k_is); (case mpd16l => k_is); (case mpd16c => k_is); (case mpd16k => k_is)
    (case mpd17a => k_is); (case mpd17l => k_is); (case mpd17c => k_is); (case mpd17k => k_is)
    (case mpd18a => k_is); (case mpd18l => k_is); (case mpd18c => k_is); (case mpd18k => k_is)
    (case mpd19a => k_is); (case mpd19l => k_is); (case mpd19c => k_is); (case mpd19k => k_is)
    (case mpd20a => k_is); (case mpd20l => k_is); (case mpd20c => k_is); (case mpd20k => k_is)
    (case mpg0a => k_is); (case mpg0v => exact Mp.GV.int _ _)
    (case mpg1a => k_is); (case mpg1v => exact Mp.GV.int _ _)
    (case mpg2a => k_is); (case mpg2v => exact Mp.GV.int _ _)
    (case mpg3a => k_is); (case mpg3v => exact Mp.GV.int _ _)
    (case mpg4a => k_is); (case mpg4v => exact Mp.GV.int _ _)
    (case mpg5a => k_is); (case mpg5v => exact Mp.GV.int _ _)
    (case mpg6a => k_is); (case mpg6v => exact Mp.GV.int _ _)
    (case mpg7a => k_is); (case mpg7v => exact Mp.GV.int _ _)
    (case mpg8a => k_is); (case mpg8v => exact Mp.GV.int _ _)
    (case mpg9a => k_is); (case mpg9v => exact Mp.GV.int _ _)
    (case mpg10a => k_is); (case mpg10v => exact Mp.GV.int _ _)
    (case mpg11a => k_is); (case mpg11v => exact Mp.GV.int _ _)
    (case mpb0 => k_is)
    (case mpb1 => k_is)
    (case mpb2 => k_is)
    (case mpb3 => k_is)
    (case mpb4 => k_is)
    (case mpb5 => k_is)
    (case mpb6 => k_is)
    (case mpb7 => k_is)
    (case mpb8 => k_is)
    (case mpb9 => k_is)
    (case mpb10 => k_is)
    (case mpb11 => k_is)
    (case mpb12 => k_is)
    (case mpb13 => k_is)
    (case mpb14 => k_is)
    (case mpb15 => k_is)
    (case mpb16 => k_is)
    (case mpb17 => k_is)
    (case mpb18 => k_is)
    (case mpb19 => k_is)
    (case mpb20 => k_is)
    (case mpb21 => k_is)
    (case mpb22 => k_is)
    (case mpb23 => k_is)
    (case mpb24 => k_is)
    (case mpb25 => k_is)
    (case mpb26 => k_is)
    (case mpb27 => k_is)
    (case mpb28 => k_is)
    (case mpb29 => k_is)
    (case mpb30 => k_is)
    (case mpb31 => k_is)
    (case mpb32 => k_is)
    (case mpb33 => k_is)
    (case mpb34 => k_is)
    (case mpb35 => k_is)
    (case mpb36 => k_is)
    (case mpb37 => k_is)
    (case mpb38 => k_is)
    (case mpb39 => k_is)
    (case mpb40 => k_is)
    (case mpb41 => k_is)
    (case mpb42 => k_is)
    (case mpb43 => k_is)
    (case mpb44 => k_is)
    (case mpb45 => k_is)
    (case mpe0ns => k_is); (case mpe0pg => k_is); (case mpe0hd => k_is); (case mpe0po => k_is); (case mpe0sa => k_is); (case mpe0mk => k_is); (case mpe0kp => k_is)
    (case mpe1ns => k_is); (case mpe1pg => k_is); (case mpe1hd => k_is); (case mpe1po => k_is); (case mpe1sa => k_is); (case mpe1mk => k_is); (case mpe1kp => k_is)
    (case mpq0a => k_is); (case mpq0i => k_is); (case mpq0k => k_is); (case mpq0l => k_is); (case mpq0c => k_is)
    (case mpq1a => k_is); (case mpq1i => k_is); (case mpq1k => k_is); (case mpq1l => k_is); (case mpq1c => k_is)
    (case mpq2a => k_is); (case mpq2i => k_is); (case mpq2k => k_is); (case mpq2l => k_is); (case mpq2c => k_is)
    (case mpq3a => k_is); (case mpq3i => k_is); (case mpq3k => k_is); (case mpq3l => k_is); (case mpq3c => k_is)
    (case mpq4a => k_is); (case mpq4i => k_is); (case mpq4k => k_is); (case mpq4l => k_is); (case mpq4c => k_is)
    (case mpq5a => k_is); (case mpq5i => k_is); (case mpq5k => k_is); (case mpq5l => k_is); (case mpq5c => k_is)
    (case mpq6a => k_is); (case mpq6i => k_is); (case mpq6k => k_is); (case mpq6l => k_is); (case mpq6c => k_is)
    (case mpq7a => k_is); (case mpq7i => k_is); (case mpq7k => k_is); (case mpq7l => k_is); (case mpq7c => k_is)
    (case mpq8a => k_is); (case mpq8i => k_is); (case mpq8k => k_is); (case mpq8l => k_is); (case mpq8c => k_is)
    (case mpq9a => k_is); (case mpq9i => k_is); (case mpq9k => k_is); (case mpq9l => k_is); (case mpq9c => k_is)
    (case mpq10a => k_is); (case mpq10i => k_is); (case mpq10k => k_is); (case mpq10l => k_is); (case mpq10c => k_is)
    (case mpq11a => k_is); (case mpq11i => k_is); (case mpq11k => k_is); (case mpq11l => k_is); (case mpq11c => k_is)
    (case mpq12a => k_is); (case mpq12i => k_is); (case mpq12k => k_is); (case mpq12l => k_is); (case mpq12c => k_is)
    (case mpf0 => k_is)
    (case mpf1 => k_is)
    (case mpf2 => k_is)
    (case mpf3 => k_is)
    (case mpf4 => k_is)
    (case mpf5 => k_is)
    (case mpf6 => k_is)
    (case mpf7 => k_is)
    (case mpf8 => k_is)
    (case mpf9 => k_is)
    (case mpf10 => k_is)
    (case mpf11 => k_is)
    (case mpf12 => k_is)
    (case mpf13 => k_is)
    (case mpf14 => k_is)
    (case mpf15 => k_is)
    (case mpf16 => k_is)
    (case mpf17 => k_is)
    (case mpf18 => k_is)
    (case mpf19 => k_is)
#print axioms PySem.Challenge.cw_wireagreed_k44_whole_long_messages_holds
