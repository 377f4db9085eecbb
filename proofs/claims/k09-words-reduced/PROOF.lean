import PyProof.Rows.All
import Wide.All
import OpenK.AllK
import Wide.FinOn
import HandS.ForMost
import HandS.ForExc
import HandS.Deep
import HandS.More
import HandS.TupAny
import HandS.Style
import HandS.Walk
import HandS.Flow
import PySem.Challenge.RW_sparehop_k09_words_reduced
set_option Elab.async false
set_option linter.all false
set_option maxRecDepth 100000
set_option maxHeartbeats 4000000
/-! PD1: plain data in masked heaps. -/
namespace PD
open PySem L2

abbrev D := PyData

/-! ### data that stand in a heap -/
mutual
inductive Rp (H : Hp) : V → D → Prop
  | non : Rp H .non .none
  | bl (b : Bool) : Rp H (.bl b) (.bool b)
  | int (i : Int) : Rp H (.int i) (.int i)
  | str (x : Str) : Rp H (.str x) (.str x)
  | lst {a : Addr} {xs : List V} {ds : List D} : H a = some (.lst xs) → RpAll H xs ds → Rp H (.ref a) (.list ds)
  | tup {a : Addr} {xs : List V} {ds : List D} : H a = some (.tup xs) → RpAll H xs ds → Rp H (.ref a) (.tuple ds)
inductive RpAll (H : Hp) : List V → List D → Prop
  | nil : RpAll H [] []
  | cons {v : V} {vs : List V} {d : D} {ds : List D} : Rp H v d → RpAll H vs ds → RpAll H (v :: vs) (d :: ds)
end

/-! ### heaps below one another -/
def Sub (H H' : Hp) : Prop := ∀ b o, H b = some o → H' b = some o
theorem Sub.refl (H : Hp) : Sub H H := fun _ _ h => h
theorem Sub.trans {H H1 H2 : Hp} (a : Sub H H1) (b : Sub H1 H2) : Sub H H2 := fun c o h => b c o (a c o h)
theorem Sub.new {H : Hp} {p : Addr} {o : HO} (h : H p = none) : Sub H (upd H p o) := by
  intro b u e
  by_cases q : b = p
  · subst q; rw [h] at e; cases e
  · rw [upd_ne q]; exact e
mutual
theorem Rp.sub {H H' : Hp} (s : Sub H H') : ∀ (d : D) (v : V), Rp H v d → Rp H' v d
  | .none, _, h => by cases h; exact .non
  | .bool b, _, h => by cases h; exact .bl b
  | .int i, _, h => by cases h; exact .int i
  | .str x, _, h => by cases h; exact .str x
  | .list ds, _, h => by
    cases h with
    | lst a b => exact .lst (s _ _ a) (RpAll.sub s ds _ b)
  | .tuple ds, _, h => by
    cases h with
    | tup a b => exact .tup (s _ _ a) (RpAll.sub s ds _ b)
  | .dict _, _, h => by cases h
theorem RpAll.sub {H H' : Hp} (s : Sub H H') : ∀ (ds : List D) (vs : List V), RpAll H vs ds → RpAll H' vs ds
  | [], _, h => by cases h; exact .nil
  | d :: ds, _, h => by
    cases h with
    | cons a b => exact .cons (Rp.sub s d _ a) (RpAll.sub s ds _ b)
end
mutual
theorem Rp.dp {K : PySem.W.Frag} {H : Hp} : ∀ (d : D) (v : V), Rp H v d → Dp K H v d
  | .none, _, h => by cases h; exact .non
  | .bool b, _, h => by cases h; exact .bl b
  | .int i, _, h => by cases h; exact .int i
  | .str x, _, h => by cases h; exact .str x
  | .list ds, _, h => by
    cases h with
    | lst a b => exact .lst (SqL.of a) (RpAll.dp ds _ b)
  | .tuple ds, _, h => by
    cases h with
    | tup a b => exact .tup (SqT.of a) (RpAll.dp ds _ b)
  | .dict _, _, h => by cases h
theorem RpAll.dp {K : PySem.W.Frag} {H : Hp} : ∀ (ds : List D) (vs : List V), RpAll H vs ds → DpAll K H vs ds
  | [], _, h => by cases h; exact .nil
  | d :: ds, _, h => by
    cases h with
    | cons a b => exact .cons (Rp.dp d _ a) (RpAll.dp ds _ b)
end

/-! ### lists of data at a time -/
section
variable {H : Hp}
theorem RpAll.length : ∀ {vs : List V} {ds : List D}, RpAll H vs ds → vs.length = ds.length
  | _, _, .nil => rfl
  | _, _, .cons _ t => by simp [RpAll.length t]
theorem RpAll.append : ∀ {vs ws : List V} {ds es : List D}, RpAll H vs ds → RpAll H ws es → RpAll H (vs ++ ws) (ds ++ es)
  | _, _, _, _, .nil, s => s
  | _, _, _, _, .cons r t, s => .cons r (RpAll.append t s)
theorem RpAll.one {v : V} {d : D} (h : Rp H v d) : RpAll H [v] [d] := .cons h .nil
theorem RpAll.take : ∀ {vs : List V} {ds : List D} (n : Nat), RpAll H vs ds → RpAll H (vs.take n) (ds.take n)
  | _, _, 0, _ => by simp only [List.take_zero]; exact .nil
  | _, _, _ + 1, .nil => by simp only [List.take_nil]; exact .nil
  | _, _, n + 1, .cons r t => .cons r (RpAll.take n t)
theorem RpAll.drop : ∀ {vs : List V} {ds : List D} (n : Nat), RpAll H vs ds → RpAll H (vs.drop n) (ds.drop n)
  | _, _, 0, h => h
  | _, _, _ + 1, .nil => by simp only [List.drop_nil]; exact .nil
  | _, _, n + 1, .cons _ t => RpAll.drop n t
theorem RpAll.reverse : ∀ {vs : List V} {ds : List D}, RpAll H vs ds → RpAll H vs.reverse ds.reverse
  | _, _, .nil => .nil
  | _, _, .cons r t => by
    rw [List.reverse_cons, List.reverse_cons]
    exact (RpAll.reverse t).append (.one r)
theorem RpAll.get : ∀ {vs : List V} {ds : List D} {i : Nat} {d : D}, RpAll H vs ds → ds[i]? = some d → ∃ v, vs[i]? = some v ∧ Rp H v d
  | _, _, _, _, .nil, e => by simp at e
  | _, _, 0, _, .cons r _, e => by simp at e; subst e; exact ⟨_, rfl, r⟩
  | _, _, i + 1, d, .cons _ t, e => by
    obtain ⟨v, h1, h2⟩ := RpAll.get (i := i) (d := d) t (by simpa using e)
    exact ⟨v, by simpa using h1, h2⟩
theorem RpAll.getV : ∀ {vs : List V} {ds : List D} {i : Nat} {v : V}, RpAll H vs ds → vs[i]? = some v → ∃ d, ds[i]? = some d ∧ Rp H v d
  | _, _, _, _, .nil, e => by simp at e
  | _, _, 0, _, .cons r _, e => by simp at e; subst e; exact ⟨_, rfl, r⟩
  | _, _, i + 1, v, .cons _ t, e => by
    obtain ⟨d, h1, h2⟩ := RpAll.getV (i := i) (v := v) t (by simpa using e)
    exact ⟨d, by simpa using h1, h2⟩
theorem RpAll.set : ∀ {vs : List V} {ds : List D} (i : Nat) {v : V} {d : D}, RpAll H vs ds → Rp H v d → RpAll H (vs.set i v) (ds.set i d)
  | _, _, _, _, _, .nil, _ => .nil
  | _, _, 0, _, _, .cons _ t, h => .cons h t
  | _, _, i + 1, _, _, .cons r t, h => .cons r (RpAll.set i t h)
theorem RpAll.dropLast {vs : List V} {ds : List D} (h : RpAll H vs ds) : RpAll H vs.dropLast ds.dropLast := by
  rw [List.dropLast_eq_take, List.dropLast_eq_take, h.length]
  exact h.take _
theorem RpAll.eraseIdx : ∀ {vs : List V} {ds : List D} (i : Nat), RpAll H vs ds → RpAll H (vs.eraseIdx i) (ds.eraseIdx i)
  | _, _, _, .nil => .nil
  | _, _, 0, .cons _ t => t
  | _, _, i + 1, .cons r t => .cons r (RpAll.eraseIdx i t)
theorem RpAll.rep {vs : List V} {ds : List D} (h : RpAll H vs ds) : ∀ k : Nat, RpAll H (List.replicate k vs).flatten (List.replicate k ds).flatten
  | 0 => .nil
  | k + 1 => by
    rw [List.replicate_succ, List.replicate_succ, List.flatten_cons, List.flatten_cons]
    exact h.append (RpAll.rep h k)
theorem RpAll.nil_iff {vs : List V} {ds : List D} (h : RpAll H vs ds) : vs = [] ↔ ds = [] := by
  cases h <;> simp
theorem RpAll.isEmpty {vs : List V} {ds : List D} (h : RpAll H vs ds) : vs.isEmpty = ds.isEmpty := by
  cases h <;> rfl
theorem RpAll.ints : ∀ {ns : List Int} {vs : List V}, RpAll H vs (ns.map PyData.int) → vs = ns.map V.int
  | [], _, h => by cases h; rfl
  | n :: ns, _, h => by
    cases h with
    | cons a b => cases a; rw [RpAll.ints b]; rfl
theorem RpAll.strs : ∀ {ns : List Str} {vs : List V}, RpAll H vs (ns.map PyData.str) → vs = ns.map V.str
  | [], _, h => by cases h; rfl
  | n :: ns, _, h => by
    cases h with
    | cons a b => cases a; rw [RpAll.strs b]; rfl
theorem RpAll.ofInts : ∀ (ns : List Int), RpAll H (ns.map V.int) (ns.map PyData.int)
  | [] => .nil
  | n :: ns => .cons (.int n) (RpAll.ofInts ns)
theorem RpAll.ofStrs : ∀ (ns : List Str), RpAll H (ns.map V.str) (ns.map PyData.str)
  | [] => .nil
  | n :: ns => .cons (.str n) (RpAll.ofStrs ns)
end

/-! ### the world beside the data: what a call may change -/
structure Wd where
  T : Type
  Foot : T → Addr → Bool
  R : T → Hp → Prop
  loc : ∀ g H H', R g H → (∀ b, Foot g b = true → H' b = H b) → R g H'
  there : ∀ g H b, R g H → Foot g b = true → H b ≠ none

/-- what is seen of a heap: neither held by someone (M) nor of the world -/
def seen {W : Wd} (M : Addr → Bool) (g : W.T) (H : Hp) : Hp := fun b => if (M b || W.Foot g b) = true then none else H b
theorem seen_some {W : Wd} {M : Addr → Bool} {g : W.T} {H : Hp} {b : Addr} {o : HO} : seen M g H b = some o ↔ M b = false ∧ W.Foot g b = false ∧ H b = some o := by
  unfold seen
  cases h1 : M b <;> cases h2 : W.Foot g b <;> simp [h1, h2]
theorem seen_sub {W : Wd} {M : Addr → Bool} {g : W.T} {H : Hp} : Sub (seen M g H) H := fun b o h => (seen_some.mp h).2.2
theorem seen_at {W : Wd} {M : Addr → Bool} {g : W.T} {H : Hp} {b : Addr} {o : HO} (h1 : M b = false) (h2 : W.Foot g b = false) (h3 : H b = some o) : seen M g H b = some o := seen_some.mpr ⟨h1, h2, h3⟩

/-- the world went on: what is no one's stays -/
structure Grow {W : Wd} (g : W.T) (H : Hp) (g' : W.T) (H' : Hp) : Prop where
  keep : ∀ b o, H b = some o → W.Foot g b = false → H' b = some o ∧ W.Foot g' b = false
  alive : ∀ b, H b ≠ none → H' b ≠ none
theorem Grow.refl {W : Wd} (g : W.T) (H : Hp) : Grow g H g H := ⟨fun _ _ h f => ⟨h, f⟩, fun _ h => h⟩
theorem Grow.trans {W : Wd} {g g1 g2 : W.T} {H H1 H2 : Hp} (a : Grow g H g1 H1) (b : Grow g1 H1 g2 H2) : Grow g H g2 H2 :=
  ⟨fun c o h f => let ⟨h1, f1⟩ := a.keep c o h f; b.keep c o h1 f1, fun c h => b.alive c (a.alive c h)⟩
theorem Grow.sub {W : Wd} {g : W.T} {H H' : Hp} (s : Sub H H') : Grow g H g H' := by
  refine ⟨fun b u e f => ⟨s b u e, f⟩, fun b e => ?_⟩
  cases q : H b with
  | none => exact absurd q e
  | some o => rw [s b o q]; simp
theorem Grow.seen {W : Wd} {g g' : W.T} {H H' : Hp} (a : Grow g H g' H') (M : Addr → Bool) : Sub (seen M g H) (PD.seen M g' H') := fun b o h => by
  obtain ⟨h1, h2, h3⟩ := seen_some.mp h
  obtain ⟨h4, h5⟩ := a.keep b o h3 h2
  exact seen_at h1 h5 h4

def onb (M : Addr → Bool) (a : Addr) : Addr → Bool := fun b => M b || b == a
def offb (M : Addr → Bool) (a : Addr) : Addr → Bool := fun b => M b && !(b == a)
theorem onb_self {M : Addr → Bool} {a : Addr} : onb M a a = true := by simp [onb]
theorem onb_of {M : Addr → Bool} {a b : Addr} (h : M b = true) : onb M a b = true := by simp [onb, h]
theorem onb_ne {M : Addr → Bool} {a b : Addr} (h : b ≠ a) : onb M a b = M b := by simp [onb, h]
theorem offb_ne {M : Addr → Bool} {a b : Addr} (h : b ≠ a) : offb M a b = M b := by simp [offb, h]
theorem offb_self {M : Addr → Bool} {a : Addr} : offb M a a = false := by simp [offb]
theorem offb_le {M : Addr → Bool} {a b : Addr} (h : offb M a b = true) : M b = true := by
  simp [offb] at h; exact h.1
/-- fewer held: more seen -/
theorem seen_mono {W : Wd} {M M' : Addr → Bool} {g : W.T} {H : Hp} (h : ∀ b, M' b = true → M b = true) : Sub (seen M g H) (seen M' g H) := fun b o e => by
  obtain ⟨h1, h2, h3⟩ := seen_some.mp e
  refine seen_at ?_ h2 h3
  cases q : M' b with
  | false => rfl
  | true => rw [h b q] at h1; cases h1
/-- a held object is written -/
theorem seen_upd {W : Wd} {M : Addr → Bool} {g : W.T} {H : Hp} {a : Addr} {o : HO} (h : M a = true) : seen M g (upd H a o) = seen M g H := by
  funext b
  unfold seen
  by_cases q : b = a
  · subst q; simp [h]
  · rw [upd_ne q]
/-- a new object that is held at once -/
theorem seen_on {W : Wd} {M : Addr → Bool} {g : W.T} {H : Hp} {a : Addr} {o : HO} (h : H a = none) : Sub (seen M g H) (seen (onb M a) g (upd H a o)) := fun b u e => by
  obtain ⟨h1, h2, h3⟩ := seen_some.mp e
  have q : b ≠ a := fun q => by subst q; rw [h] at h3; cases h3
  exact seen_at (by rw [onb_ne q]; exact h1) h2 (by rw [upd_ne q]; exact h3)
theorem R_upd {W : Wd} {g : W.T} {H : Hp} {a : Addr} {o : HO} (r : W.R g H) (h : W.Foot g a = false) : W.R g (upd H a o) :=
  W.loc g H _ r fun b hb => upd_ne fun e => by subst e; rw [h] at hb; cases hb
theorem R_sub {W : Wd} {g : W.T} {H H' : Hp} (r : W.R g H) (s : Sub H H') : W.R g H' :=
  W.loc g H _ r fun b hb => by
    cases q : H b with
    | none => exact absurd q (W.there g H b r hb)
    | some o => exact s b o q
theorem foot_new {W : Wd} {g : W.T} {H : Hp} {p : Addr} (r : W.R g H) (h : H p = none) : W.Foot g p = false := by
  cases q : W.Foot g p with
  | false => rfl
  | true => exact absurd h (W.there g H p r q)

/-! ### values of slots, results -/
inductive SV where
  | d (x : D)
  | r (v : V)
inductive Sl where
  | un
  | val (x : SV)
  | own (x : D)
/-- a result: a value, or a new list that nobody else has -/
inductive Rs where
  | v (x : SV)
  | f (x : D)
def Rs.sv : Rs → SV
  | .v x => x
  | .f x => .d x

def RepSV (H : Hp) (v : V) : SV → Prop
  | .d x => Rp H v x
  | .r u => v = u
theorem RepSV.sub {H H' : Hp} (s : Sub H H') {v : V} : ∀ {x : SV}, RepSV H v x → RepSV H' v x
  | .d x, h => Rp.sub s x v h
  | .r _, h => h
inductive RepAll (H : Hp) : List V → List SV → Prop
  | nil : RepAll H [] []
  | cons {v : V} {vs : List V} {x : SV} {xs : List SV} : RepSV H v x → RepAll H vs xs → RepAll H (v :: vs) (x :: xs)
theorem RepAll.sub {H H' : Hp} (s : Sub H H') : ∀ {vs : List V} {xs : List SV}, RepAll H vs xs → RepAll H' vs xs
  | _, _, .nil => .nil
  | _, _, .cons r t => .cons (r.sub s) (RepAll.sub s t)
theorem RepAll.length {H : Hp} : ∀ {vs : List V} {xs : List SV}, RepAll H vs xs → vs.length = xs.length
  | _, _, .nil => rfl
  | _, _, .cons _ t => by simp [RepAll.length t]

/-- an operand: data that are seen, or a list that is held, its items seen -/
def BR (S H : Hp) (v : V) : SV → Prop
  | .d x => Rp S v x ∨ ∃ a xs ds, v = V.ref a ∧ x = .list ds ∧ H a = some (.lst xs) ∧ RpAll S xs ds
  | .r u => v = u
theorem BR.of {S H : Hp} {v : V} : ∀ {x : SV}, RepSV S v x → BR S H v x
  | .d _, h => .inl h
  | .r _, h => h
section
variable {S H : Hp} {v : V}
theorem BR.full (s : Sub S H) {x : D} (h : BR S H v (.d x)) : Rp H v x := by
  rcases h with h | ⟨a, xs, ds, rfl, rfl, e, r⟩
  · exact h.sub s _ _
  · exact .lst e (r.sub s _ _)
theorem BR.int {i : Int} (h : BR S H v (.d (.int i))) : v = V.int i := by
  rcases h with h | ⟨a, xs, ds, rfl, e, _⟩
  · cases h; rfl
  · cases e
theorem BR.bool {i : Bool} (h : BR S H v (.d (.bool i))) : v = V.bl i := by
  rcases h with h | ⟨a, xs, ds, rfl, e, _⟩
  · cases h; rfl
  · cases e
theorem BR.str {i : Str} (h : BR S H v (.d (.str i))) : v = V.str i := by
  rcases h with h | ⟨a, xs, ds, rfl, e, _⟩
  · cases h; rfl
  · cases e
theorem BR.none (h : BR S H v (.d .none)) : v = V.non := by
  rcases h with h | ⟨a, xs, ds, rfl, e, _⟩
  · cases h; rfl
  · cases e
theorem BR.tuple (s : Sub S H) {ds : List D} (h : BR S H v (.d (.tuple ds))) : ∃ a xs, v = V.ref a ∧ S a = some (.tup xs) ∧ H a = some (.tup xs) ∧ RpAll S xs ds := by
  rcases h with h | ⟨a, xs, ds, rfl, e, _⟩
  · cases h with
    | tup h1 h2 => exact ⟨_, _, rfl, h1, s _ _ h1, h2⟩
  · cases e
theorem BR.list (s : Sub S H) {ds : List D} (h : BR S H v (.d (.list ds))) : ∃ a xs, v = V.ref a ∧ H a = some (.lst xs) ∧ RpAll S xs ds := by
  rcases h with h | ⟨a, xs, ds', rfl, e, h1, h2⟩
  · cases h with
    | lst h1 h2 => exact ⟨_, _, rfl, s _ _ h1, h2⟩
  · cases e; exact ⟨_, _, rfl, h1, h2⟩
end
inductive BRs (S H : Hp) : List V → List SV → Prop
  | nil : BRs S H [] []
  | cons {v : V} {vs : List V} {x : SV} {xs : List SV} : BR S H v x → BRs S H vs xs → BRs S H (v :: vs) (x :: xs)

/-- what an operation hands back: a value that is seen, a new tuple, a new list -/
inductive Out (S H : Hp) : Rs → V → Hp → Prop
  | same {x : SV} {v : V} : RepSV S v x → Out S H (.v x) v H
  | tup {p : Addr} {xs : List V} {ds : List D} : H p = none → RpAll S xs ds → Out S H (.v (.d (.tuple ds))) (V.ref p) (upd H p (.tup xs))
  | lst {p : Addr} {xs : List V} {ds : List D} : H p = none → RpAll S xs ds → Out S H (.f (.list ds)) (V.ref p) (upd H p (.lst xs))

/-- a frame: heap, world and held objects at the entry -/
structure Frm (W : Wd) where
  H0 : Hp
  g0 : W.T
  M0 : Addr → Bool

/-- an object that the frame alone has -/
structure OwnAt {W : Wd} (F : Frm W) (M : Addr → Bool) (g : W.T) (H : Hp) (a : Addr) (x : D) : Prop where
  m : M a = true
  new : F.H0 a = none
  rep : ∃ xs ds, x = .list ds ∧ H a = some (.lst xs) ∧ RpAll (seen M g H) xs ds

structure SS (W : Wd) where
  sl : List Sl
  g : W.T

def SlRep {W : Wd} (F : Frm W) (M : Addr → Bool) (g : W.T) (H : Hp) (σ : L2.St) (i : Nat) : Sl → Prop
  | .un => True
  | .val x => ∃ v, σ[i]? = some (some v) ∧ RepSV (seen M g H) v x
  | .own x => ∃ a, σ[i]? = some (some (V.ref a)) ∧ OwnAt F M g H a x

/-- the frame's state is described -/
structure Rel {W : Wd} (F : Frm W) (st : SS W) (M : Addr → Bool) (σ : L2.St) (H : Hp) : Prop where
  len : st.sl.length = σ.length
  R : W.R st.g H
  gr : Grow F.g0 F.H0 st.g H
  mdom : ∀ a, M a = true → H a ≠ none ∧ W.Foot st.g a = false
  m0 : ∀ a, F.M0 a = true → M a = true
  m0d : ∀ a, F.M0 a = true → F.H0 a ≠ none ∧ W.Foot F.g0 a = false
  sl : ∀ (i : Nat) (x : Sl), st.sl[i]? = some x → SlRep F M st.g H σ i x
  dis : ∀ (i j : Nat) (x y : D) (a : Addr), st.sl[i]? = some (Sl.own x) → st.sl[j]? = some (Sl.own y) → σ[i]? = some (some (V.ref a)) → σ[j]? = some (some (V.ref a)) → i = j

/-- no slot of the frame has the object at a for itself -/
def Free {W : Wd} (st : SS W) (σ : L2.St) (a : Addr) : Prop := ∀ (i : Nat) (y : D), st.sl[i]? = some (Sl.own y) → σ[i]? ≠ some (some (V.ref a))
/-- a result's description -/
def RepRs {W : Wd} (F : Frm W) (Hs : Hp) (st : SS W) (M : Addr → Bool) (σ : L2.St) (H : Hp) (v : V) : Rs → Prop
  | .v x => RepSV (seen M st.g H) v x
  | .f x => ∃ a, v = V.ref a ∧ Hs a = none ∧ OwnAt F M st.g H a x ∧ Free st σ a

/-- an expression's step: what is seen grows; what others hold stays; no slot becomes the frame's own -/
structure Adv {W : Wd} (σ : L2.St) (st : SS W) (M : Addr → Bool) (H : Hp) (st' : SS W) (M' : Addr → Bool) (H' : Hp) : Prop where
  sub : Sub (seen M st.g H) (seen M' st'.g H')
  fix : ∀ a, M a = true → Free st σ a → M' a = true ∧ H' a = H a
  own : ∀ (i : Nat) (y : D), st'.sl[i]? = some (Sl.own y) → ∃ x, st.sl[i]? = some (Sl.own x)
  alive : ∀ b, H b ≠ none → H' b ≠ none
  len : st'.sl.length = st.sl.length
theorem Adv.refl {W : Wd} (σ : L2.St) (st : SS W) (M : Addr → Bool) (H : Hp) : Adv σ st M H st M H := ⟨Sub.refl _, fun _ h _ => ⟨h, rfl⟩, fun _ y h => ⟨y, h⟩, fun _ h => h, rfl⟩
theorem Adv.free {W : Wd} {σ : L2.St} {st st' : SS W} {M M' : Addr → Bool} {H H' : Hp} (a : Adv σ st M H st' M' H') {b : Addr} (h : Free st σ b) : Free st' σ b := fun i y e => by
  obtain ⟨x, e'⟩ := a.own i y e
  exact h i x e'
theorem Adv.trans {W : Wd} {σ : L2.St} {st st1 st2 : SS W} {M M1 M2 : Addr → Bool} {H H1 H2 : Hp} (a : Adv σ st M H st1 M1 H1) (b : Adv σ st1 M1 H1 st2 M2 H2) : Adv σ st M H st2 M2 H2 := by
  refine ⟨a.sub.trans b.sub, fun c h f => ?_, fun i y e => ?_, fun c h => b.alive c (a.alive c h), b.len.trans a.len⟩
  · obtain ⟨h1, e1⟩ := a.fix c h f
    obtain ⟨h2, e2⟩ := b.fix c h1 (a.free f)
    exact ⟨h2, e2.trans e1⟩
  · obtain ⟨x, e1⟩ := b.own i y e
    exact a.own i x e1
end PD
/-! PD2: the small language, what must hold that it ends well. -/
namespace PD
open PySem L2

inductive Bop where
  | add | sub | mul | fdiv | mod | pow
  deriving DecidableEq
inductive Cop where
  | eq | ne | lt | le | gt | ge | isn | nisn | inn | nin
  deriving DecidableEq
/-- built-in functions -/
inductive Bf where
  | len | list | tuple | int | abs | repr | str | min | max | sum | sorted | all | any | isi | range | bool
  deriving DecidableEq
/-- methods that change nothing -/
inductive Mf where
  | join | split | index | find | count | get | upper | values | items | keys
  deriving DecidableEq
/-- methods that change their list -/
inductive Mm where
  | append | insert | pop | extend | remove | reverse | clear
  deriving DecidableEq

mutual
inductive Tg where
  | nm (i : Nat)
  | tup (ts : Tgs)
inductive Tgs where
  | nil
  | cons (t : Tg) (ts : Tgs)
end
mutual
def Tg.beq : Tg → Tg → Bool
  | .nm i, .nm j => i == j
  | .tup a, .tup b => Tgs.beq a b
  | _, _ => false
def Tgs.beq : Tgs → Tgs → Bool
  | .nil, .nil => true
  | .cons a b, .cons c d => Tg.beq a c && Tgs.beq b d
  | _, _ => false
end

/-- kinds that isinstance asks -/
inductive Kd where
  | int | bool | str | tuple | list | dict
  deriving DecidableEq

mutual
inductive E where
  | var (i : Nat)
  | cst (x : D)
  | tup (es : Es)
  | lst (es : Es)
  | bin (op : Bop) (a b : E)
  | neg (a : E)
  | cmp (op : Cop) (a b : E)
  | chain (o1 o2 : Cop) (a b c : E)
  | and (a b : E)
  | or (a b : E)
  | not (a : E)
  | ife (c a b : E)
  | idx (a b : E)
  | cut (a : E) (lo hi : Eo)
  | rev (a : E)
  | call (f : Str) (es : Es)
  | blt (f : Bf) (es : Es)
  | isi (k : Kd) (a : E)
  | mth (m : Mf) (o : E) (es : Es)
  | mut (m : Mm) (i : Nat) (es : Es)
  | comp (tg : Tg) (it : Itr) (ifs : Es) (elt : E) (own : List Nat)
inductive Es where
  | nil
  | cons (e : E) (es : Es)
inductive Eo where
  | none
  | some (e : E)
inductive Itr where
  | seq (e : E)
  | rng1 (a : E)
  | rng2 (a b : E)
  | rng3 (a b c : E)
  | enum (e : E)
  | zip (a b : E)
end

inductive Stm where
  | asg (tg : Tg) (e : E)
  | par (is : List Nat) (es : Es)
  | aug (i : Nat) (op : Bop) (e : E)
  | setI (i : Nat) (k e : E)
  | expr (e : E)
  | ret (e : E)
  | ret0
  | ife (c : E) (a b : List Stm)
  | forr (tg : Tg) (it : Itr) (body : List Stm)
  | whl (c : E) (body : List Stm)
  | brk
  | cnt
  | pass

def E.isVar : E → Option Nat
  | .var i => some i
  | _ => none

/-! ### states -/
section
variable {W : Wd}
def SS.frz (st : SS W) (i : Nat) : SS W :=
  match st.sl[i]? with
  | some (.own x) => ⟨st.sl.set i (.val (.d x)), st.g⟩
  | _ => st
def SS.frzs (st : SS W) : List Nat → SS W
  | [] => st
  | i :: r => SS.frzs (st.frz i) r
def Sl.get : Sl → Option SV
  | .un => none
  | .val x => some x
  | .own x => some (.d x)
def SS.get (st : SS W) (i : Nat) : Option SV := (st.sl[i]?).bind Sl.get
def unset (own : List Nat) (sl : List Sl) : List Sl :=
  match own with
  | [] => sl
  | i :: r => (unset r sl).set i .un
/-- the places own of sl, all others of now -/
def back (own : List Nat) (sl now : List Sl) : List Sl :=
  match own with
  | [] => now
  | i :: r => (back r sl now).set i (sl.getD i .un)
def Rs.sl : Rs → Sl
  | .v x => .val x
  | .f x => .own x
def SS.put (st : SS W) (i : Nat) (r : Rs) : SS W := ⟨st.sl.set i r.sl, st.g⟩
def SS.puts (st : SS W) : List Nat → List Rs → SS W
  | i :: is, r :: rs => SS.puts (st.put i r) is rs
  | _, _ => st

/-- an operand: a slot, read when it is wanted; a value -/
inductive Op where
  | slot (i : Nat)
  | now (x : SV)
def Op.get (st : SS W) : Op → Option SV
  | .slot i => st.get i
  | .now x => some x
def Op.frz (st : SS W) : Op → SS W
  | .slot i => st.frz i
  | .now _ => st
def opsGet (st : SS W) : List Op → Option (List SV)
  | [] => some []
  | o :: r => match o.get st, opsGet st r with
    | some x, some xs => some (x :: xs)
    | _, _ => none
def opsIx : List Op → List Nat
  | [] => []
  | .slot i :: r => i :: opsIx r
  | .now _ :: r => opsIx r
def dats : List SV → Option (List D)
  | [] => some []
  | .d x :: r => match dats r with
    | some xs => some (x :: xs)
    | none => none
  | .r _ :: _ => none
def scalD : D → Bool
  | .none => true
  | .bool _ => true
  | .int _ => true
  | .str _ => true
  | _ => false
def Rs.scal : Rs → Bool
  | .v (.d x) => scalD x
  | _ => false
/-- behind a call: slots handed over stay the frame's own if the answer is a scalar -/
def after (ops : List Op) (r : Rs) (st : SS W) (g : W.T) : SS W :=
  if r.scal = true then ⟨st.sl, g⟩ else ⟨(st.frzs (opsIx ops)).sl, g⟩
mutual
def bindT : Tg → SV → List Sl → Option (List Sl)
  | .nm i, x, sl => if i < sl.length then some (sl.set i (.val x)) else none
  | .tup ts, .d (.tuple ds), sl => bindTs ts ds sl
  | .tup _, _, _ => none
def bindTs : Tgs → List D → List Sl → Option (List Sl)
  | .nil, [], sl => some sl
  | .cons t ts, d :: ds, sl => match bindT t (.d d) sl with
    | some sl' => bindTs ts ds sl'
    | none => none
  | _, _, _ => none
end
end

/-! ### operations on data -/
def truthD : SV → Option Bool
  | .d .none => some false
  | .d (.bool b) => some b
  | .d (.int i) => some (i != 0)
  | .d (.str x) => if x.length ≤ sizeLine then some ((x.length : Int) != 0) else none
  | .d (.list xs) => some (!xs.isEmpty)
  | .d (.tuple xs) => some (!xs.isEmpty)
  | _ => none
/-- a written int times a text: the text k times -/
def timesS (x : Str) : Nat → Str
  | 0 => Str.empty
  | k + 1 => timesS x k ++ x
def binW (op : Bop) (x y : SV) (Q : Rs → Prop) : Prop :=
  match op, x, y with
  | .add, .d (.int i), .d (.int j) => Q (.v (.d (.int (i + j))))
  | .add, .d (.str a), .d (.str b) => a.length + b.length ≤ sizeLine ∧ Q (.v (.d (.str (a ++ b))))
  | .add, .d (.list a), .d (.list b) => a.length + b.length ≤ sizeLine ∧ Q (.f (.list (a ++ b)))
  | .add, .d (.tuple a), .d (.tuple b) => a.length + b.length ≤ sizeLine ∧ Q (.v (.d (.tuple (a ++ b))))
  | .sub, .d (.int i), .d (.int j) => Q (.v (.d (.int (i - j))))
  | .mul, .d (.int i), .d (.int j) => CMul i j ∧ Q (.v (.d (.int (i * j))))
  | .mul, .d (.str a), .d (.int j) => (0 ≤ j ∧ j ≤ 1000 ∧ a.length ≤ 1000) ∧ Q (.v (.d (.str (timesS a j.toNat))))
  | .mul, .d (.list a), .d (.int j) => (-(2 ^ 63) ≤ j ∧ j < 2 ^ 63 ∧ a.length * j.toNat ≤ sizeLine) ∧ Q (.f (.list (List.replicate j.toNat a).flatten))
  | .fdiv, .d (.int i), .d (.int j) => CDiv i j ∧ Q (.v (.d (.int (i / j))))
  | .mod, .d (.int i), .d (.int j) => 0 < j ∧ Q (.v (.d (.int (i % j))))
  | .pow, .d (.int i), .d (.int j) => CPow i j ∧ Q (.v (.d (.int (i ^ j.toNat))))
  | _, _, _ => False
def negW (x : SV) (Q : Rs → Prop) : Prop :=
  match x with
  | .d (.int i) => Q (.v (.d (.int (-i))))
  | _ => False
def isNoneD : D → Bool
  | .none => true
  | _ => false
/-- data that == takes -/
abbrev Shp (x : D) : Prop := SeqAt.shaped x = true
def eqC : SV → SV → Prop
  | .d (.int _), .d (.int _) => True
  | .d (.str _), .d (.str _) => True
  | .d a, .d b => Shp a ∧ Shp b
  | _, _ => False
def eqB : SV → SV → Bool
  | .d a, .d b => PyData.eqv a b
  | _, _ => false
def cmpW (op : Cop) (x y : SV) (Q : Bool → Prop) : Prop :=
  match op with
  | .eq => eqC x y ∧ Q (eqB x y)
  | .ne => eqC x y ∧ Q (!eqB x y)
  | .lt => match x, y with
    | .d (.int i), .d (.int j) => Q (decide (i < j))
    | .d (.str i), .d (.str j) => Q (decide (i.cps.toList < j.cps.toList))
    | _, _ => False
  | .le => match x, y with
    | .d (.int i), .d (.int j) => Q (decide (i ≤ j))
    | _, _ => False
  | .gt => match x, y with
    | .d (.int i), .d (.int j) => Q (decide (j < i))
    | _, _ => False
  | .ge => match x, y with
    | .d (.int i), .d (.int j) => Q (decide (j ≤ i))
    | _, _ => False
  | .isn => match x, y with
    | .d a, .d .none => Q (isNoneD a)
    | _, _ => False
  | .nisn => match x, y with
    | .d a, .d .none => Q (!isNoneD a)
    | _, _ => False
  | .inn => match x, y with
    | .d a, .d (.list ds) => Shp a ∧ Shp (.list ds) ∧ Q (ds.any fun z => PyData.eqv z a)
    | .d a, .d (.tuple ds) => Shp a ∧ Shp (.tuple ds) ∧ Q (ds.any fun z => PyData.eqv z a)
    | .d (.str a), .d (.str b) => Q (!(Builtin.Str.occurrences b a 0 b.length 1).isEmpty)
    | _, _ => False
  | .nin => match x, y with
    | .d a, .d (.list ds) => Shp a ∧ Shp (.list ds) ∧ Q (!ds.any fun z => PyData.eqv z a)
    | .d a, .d (.tuple ds) => Shp a ∧ Shp (.tuple ds) ∧ Q (!ds.any fun z => PyData.eqv z a)
    | .d (.str a), .d (.str b) => Q (!(!(Builtin.Str.occurrences b a 0 b.length 1).isEmpty))
    | _, _ => False
def idxW (x y : SV) (Q : Rs → Prop) : Prop :=
  match x, y with
  | .d (.list ds), .d (.int i) => ∃ z, atI ds i = some z ∧ Q (.v (.d z))
  | .d (.tuple ds), .d (.int i) => ∃ z, atI ds i = some z ∧ Q (.v (.d z))
  | .d (.str s), .d (.int i) => s.length ≤ sizeLine ∧ ∃ c, atI s.cps.toList i = some c ∧ Q (.v (.d (.str ⟨#[c]⟩)))
  | _, _ => False
def cutD {α : Type} (xs : List α) (lo hi : Option Int) : List α := (xs.drop (HT.sIx xs.length 0 lo)).take (HT.sIx xs.length xs.length hi - HT.sIx xs.length 0 lo)
def cutW (x : SV) (l h : Option Int) (Q : Rs → Prop) : Prop :=
  match x with
  | .d (.list ds) => Q (.f (.list (cutD ds l h)))
  | .d (.tuple ds) => Q (.v (.d (.tuple (cutD ds l h))))
  | .d (.str s) => s.length ≤ sizeLine ∧ Q (.v (.d (.str ⟨(cutD s.cps.toList l h).toArray⟩)))
  | _ => False
def revW (x : SV) (Q : Rs → Prop) : Prop :=
  match x with
  | .d (.list ds) => Q (.f (.list ds.reverse))
  | .d (.tuple ds) => Q (.v (.d (.tuple ds.reverse)))
  | _ => False
def strsOf : List D → Option (List Str)
  | [] => some []
  | .str x :: r => match strsOf r with
    | some xs => some (x :: xs)
    | none => none
  | _ :: _ => none
def intsOf : List D → Option (List Int)
  | [] => some []
  | .int x :: r => match intsOf r with
    | some xs => some (x :: xs)
    | none => none
  | _ :: _ => none
def bltW (f : Bf) (xs : List SV) (Q : Rs → Prop) : Prop :=
  match f, xs with
  | .len, [.d (.list ds)] => Q (.v (.d (.int ds.length)))
  | .len, [.d (.tuple ds)] => Q (.v (.d (.int ds.length)))
  | .len, [.d (.str s)] => s.length ≤ sizeLine ∧ Q (.v (.d (.int s.length)))
  | .list, [.d (.list ds)] => Q (.f (.list ds))
  | .list, [.d (.tuple ds)] => Q (.f (.list ds))
  | .tuple, [.d (.list ds)] => Q (.v (.d (.tuple ds)))
  | .tuple, [.d (.tuple ds)] => Q (.v (.d (.tuple ds)))
  | .int, [.d (.int i)] => Q (.v (.d (.int i)))
  | .int, [.d (.bool b)] => Q (.v (.d (.int (if b then 1 else 0))))
  | .abs, [.d (.int i)] => Q (.v (.d (.int (if i < 0 then -i else i))))
  | .str, [.d (.int i)] => i.natAbs.log2 < 1920 ∧ Q (.v (.d (.str (toString i))))
  | .repr, [.d x] => (Shp x ∧ x.showable = true ∧ x.shown.length ≤ sizeLine) ∧ Q (.v (.d (.str x.shown)))
  | .min, [.d (.int i), .d (.int j)] => Q (.v (.d (.int (if j < i then j else i))))
  | .max, [.d (.int i), .d (.int j)] => Q (.v (.d (.int (if j > i then j else i))))
  | .sum, [.d (.list ds)] => ∃ ns, intsOf ds = some ns ∧ Q (.v (.d (.int ns.sum)))
  | _, _ => False
def mthW (m : Mf) (o : SV) (xs : List SV) (Q : Rs → Prop) : Prop :=
  match m, o, xs with
  | .join, .d (.str s), [.d (.list ds)] => ∃ ys, strsOf ds = some ys ∧ ((ys.map (·.length)).sum + ys.length * s.length ≤ 16777216) ∧ Q (.v (.d (.str (Txt.join s ys))))
  | .join, .d (.str s), [.d (.tuple ds)] => ∃ ys, strsOf ds = some ys ∧ ((ys.map (·.length)).sum + ys.length * s.length ≤ 16777216) ∧ Q (.v (.d (.str (Txt.join s ys))))
  | _, _, _ => False
/-- the object whose method it is -/
def mthTy (m : Mf) (o : SV) : Prop :=
  match m, o with
  | .join, .d (.str _) => True
  | _, _ => False
/-- a method that changes the list: the answer and the list behind it -/
def mutW (m : Mm) (ds : List D) (xs : List D) (Q : D → List D → Prop) : Prop :=
  match m, xs with
  | .append, [x] => ds.length < sizeLine ∧ Q .none (ds ++ [x])
  | .insert, [.int i, x] => (ds.length < sizeLine ∧ 0 ≤ i ∧ i < 2 ^ 63) ∧ Q .none (ds.take i.toNat ++ [x] ++ ds.drop i.toNat)
  | .pop, [] => ∃ y, ds[ds.length - 1]? = some y ∧ Q y ds.dropLast
  | .pop, [.int i] => ∃ k y, (-(2 ^ 63) ≤ i ∧ i < 2 ^ 63 ∧ seqIndex? i ds.length = some k) ∧ ds[k]? = some y ∧ Q y (ds.eraseIdx k)
  | .reverse, [] => Q .none ds.reverse
  | .clear, [] => Q .none []
  | _, _ => False

/-! ### weakening -/
theorem binW_mono {op : Bop} {x y : SV} {Q Q' : Rs → Prop} (h : binW op x y Q) (q : ∀ r, Q r → Q' r) : binW op x y Q' := by
  unfold binW at h ⊢
  split at h
  all_goals first
    | exact q _ h
    | exact ⟨h.1, q _ h.2⟩
    | exact h.elim
theorem cmpW_mono {op : Cop} {x y : SV} {Q Q' : Bool → Prop} (h : cmpW op x y Q) (q : ∀ r, Q r → Q' r) : cmpW op x y Q' := by
  cases op
  all_goals
    dsimp only [cmpW] at h ⊢
  · exact ⟨h.1, q _ h.2⟩
  · exact ⟨h.1, q _ h.2⟩
  all_goals split at h
  all_goals first
    | exact q _ h
    | exact ⟨h.1, h.2.1, q _ h.2.2⟩
    | exact h.elim
theorem idxW_mono {x y : SV} {Q Q' : Rs → Prop} (h : idxW x y Q) (q : ∀ r, Q r → Q' r) : idxW x y Q' := by
  unfold idxW at h ⊢
  split at h
  · exact ⟨h.choose, h.choose_spec.1, q _ h.choose_spec.2⟩
  · exact ⟨h.choose, h.choose_spec.1, q _ h.choose_spec.2⟩
  · exact ⟨h.1, h.2.choose, h.2.choose_spec.1, q _ h.2.choose_spec.2⟩
  · exact h.elim
theorem cutW_mono {x : SV} {lo hi : Option Int} {Q Q' : Rs → Prop} (h : cutW x lo hi Q) (q : ∀ r, Q r → Q' r) : cutW x lo hi Q' := by
  unfold cutW at h ⊢
  split at h
  · exact q _ h
  · exact q _ h
  · exact ⟨h.1, q _ h.2⟩
  · exact h.elim
theorem revW_mono {x : SV} {Q Q' : Rs → Prop} (h : revW x Q) (q : ∀ r, Q r → Q' r) : revW x Q' := by
  unfold revW at h ⊢
  split at h
  · exact q _ h
  · exact q _ h
  · exact h.elim
theorem bltW_mono {f : Bf} {xs : List SV} {Q Q' : Rs → Prop} (h : bltW f xs Q) (q : ∀ r, Q r → Q' r) : bltW f xs Q' := by
  unfold bltW at h ⊢
  split at h
  all_goals first
    | exact q _ h
    | exact ⟨h.1, q _ h.2⟩
    | (obtain ⟨ns, e, h⟩ := h; exact ⟨ns, e, q _ h⟩)
    | exact h.elim
theorem mthW_mono {m : Mf} {o : SV} {xs : List SV} {Q Q' : Rs → Prop} (h : mthW m o xs Q) (q : ∀ r, Q r → Q' r) : mthW m o xs Q' := by
  unfold mthW at h ⊢
  split at h
  all_goals first
    | (obtain ⟨ns, e, hz, h⟩ := h; exact ⟨ns, e, hz, q _ h⟩)
    | exact h.elim
theorem mutW_mono {m : Mm} {ds ys : List D} {Q Q' : D → List D → Prop} (h : mutW m ds ys Q) (q : ∀ y r, Q y r → Q' y r) : mutW m ds ys Q' := by
  unfold mutW at h ⊢
  split at h
  all_goals first
    | exact q _ _ h
    | exact ⟨h.1, q _ _ h.2⟩
    | (obtain ⟨y, e, h⟩ := h; exact ⟨y, e, q _ _ h⟩)
    | (obtain ⟨k, y, hz, e, h⟩ := h; exact ⟨k, y, hz, e, q _ _ h⟩)
    | exact h.elim

/-! ### contracts of defs -/
structure Exn where
  cls : Str
  fs : List (Str × SV)
abbrev Fn (W : Wd) := List SV → W.T → (Rs → W.T → Prop) → (Exn → W.T → Prop) → Prop
abbrev Tab (W : Wd) := Str → Option (Fn W)
def Mono {W : Wd} (F : Fn W) : Prop := ∀ (xs : List SV) (g : W.T) (R R' : Rs → W.T → Prop) (Ex Ex' : Exn → W.T → Prop), F xs g R Ex → (∀ r g, R r g → R' r g) → (∀ x g, Ex x g → Ex' x g) → F xs g R' Ex'

/-- what is walked: the items; what must stand still meanwhile -/
def compL {W : Wd} (turn : D → SS W → (Option D → SS W → Prop) → Prop) (gd : SS W → Prop) : List D → List D → SS W → (List D → SS W → Prop) → Prop
  | [], acc, st, K => gd st ∧ K acc st
  | x :: r, acc, st, K => gd st ∧ turn x st fun o st' => match o with
    | some y => acc.length < sizeLine ∧ compL turn gd r (acc ++ [y]) st' K
    | none => compL turn gd r acc st' K
def forL {W : Wd} (turn : D → SS W → (SS W → Prop) → Prop) (gd : SS W → Prop) : List D → SS W → (SS W → Prop) → Prop
  | [], st, K => gd st ∧ K st
  | x :: r, st, K => gd st ∧ turn x st fun st' => forL turn gd r st' K
def rngI (lo : Int) (n : Nat) : List D := (List.range n).map fun (k : Nat) => .int (lo + (k : Int))
def rngC (lo c : Int) (n : Nat) : List D := (List.range n).map fun (k : Nat) => .int (lo + (k : Int) * c)
def enumD (xs : List D) : List D := xs.zipIdx.map fun p => .tuple [.int (p.2 : Int), p.1]
def zipD (xs ys : List D) : List D := (xs.zip ys).map fun p => .tuple [p.1, p.2]
def seqD : SV → Option (List D)
  | .d (.list ds) => some ds
  | .d (.tuple ds) => some ds
  | .d (.str s) => some (s.cps.toList.map fun c => .str ⟨#[c]⟩)
  | _ => none
abbrev XQ (W : Wd) := Exn → SS W → Prop
def noX {W : Wd} : XQ W := fun _ _ => False
section
variable {W : Wd} (Φ : Tab W)
/-- an operand, slots being left where they are -/
def opd (v : Option Nat) (w : SS W → (Rs → SS W → Prop) → Prop) (st : SS W) (K : Op → SS W → Prop) : Prop :=
  match v with
  | some i => (st.get i).isSome = true ∧ K (.slot i) st
  | none => w st fun r st' => K (.now r.sv) st'

mutual
def wpE : E → XQ W → SS W → (Rs → SS W → Prop) → Prop
  | .var i, xq, st, Q => ∃ x, st.get i = some x ∧ Q (.v x) (st.frz i)
  | .cst x, xq, st, Q => Q (.v (.d x)) st
  | .tup es, xq, st, Q => wpEs es xq st fun xs st' => ∃ ds, dats xs = some ds ∧ ds.length ≤ sizeLine ∧ Q (.v (.d (.tuple ds))) st'
  | .lst es, xq, st, Q => wpEs es xq st fun xs st' => ∃ ds, dats xs = some ds ∧ ds.length ≤ sizeLine ∧ Q (.f (.list ds)) st'
  | .bin op a b, xq, st, Q => opd a.isVar (wpE a xq) st fun o1 st1 => opd b.isVar (wpE b xq) st1 fun o2 st2 =>
      ∃ x y, o1.get st2 = some x ∧ o2.get st2 = some y ∧ binW op x y fun r => Q r st2
  | .neg a, xq, st, Q => wpE a xq st fun r st' => negW r.sv fun r' => Q r' st'
  | .cmp op a b, xq, st, Q => opd a.isVar (wpE a xq) st fun o1 st1 => opd b.isVar (wpE b xq) st1 fun o2 st2 =>
      ∃ x y, o1.get st2 = some x ∧ o2.get st2 = some y ∧ cmpW op x y fun r => Q (.v (.d (.bool r))) st2
  | .chain p1 p2 a b c, xq, st, Q => wpE a xq st fun r1 st1 => wpE b xq st1 fun r2 st2 => cmpW p1 r1.sv r2.sv fun t =>
      if t = true then wpE c xq st2 fun r3 st3 => cmpW p2 r2.sv r3.sv fun t' => Q (.v (.d (.bool t'))) st3 else Q (.v (.d (.bool false))) st2
  | .and a b, xq, st, Q => opd a.isVar (wpE a xq) st fun o st1 => ∃ x t, o.get st1 = some x ∧ truthD x = some t ∧ if t = true then wpE b xq st1 Q else Q (.v x) (o.frz st1)
  | .or a b, xq, st, Q => opd a.isVar (wpE a xq) st fun o st1 => ∃ x t, o.get st1 = some x ∧ truthD x = some t ∧ if t = true then Q (.v x) (o.frz st1) else wpE b xq st1 Q
  | .not a, xq, st, Q => opd a.isVar (wpE a xq) st fun o st1 => ∃ x t, o.get st1 = some x ∧ truthD x = some t ∧ Q (.v (.d (.bool (!t)))) st1
  | .ife c a b, xq, st, Q => opd c.isVar (wpE c xq) st fun o st1 => ∃ x t, o.get st1 = some x ∧ truthD x = some t ∧ if t = true then wpE a xq st1 Q else wpE b xq st1 Q
  | .idx a b, xq, st, Q => opd a.isVar (wpE a xq) st fun o1 st1 => wpE b xq st1 fun r2 st2 => ∃ x, o1.get st2 = some x ∧ idxW x r2.sv fun r => Q r st2
  | .cut a lo hi, xq, st, Q => opd a.isVar (wpE a xq) st fun o1 st1 => wpEo lo xq st1 fun l st2 => wpEo hi xq st2 fun h st3 => ∃ x, o1.get st3 = some x ∧ cutW x l h fun r => Q r st3
  | .rev a, xq, st, Q => opd a.isVar (wpE a xq) st fun o st1 => ∃ x, o.get st1 = some x ∧ revW x fun r => Q r st1
  | .call f es, xq, st, Q => wpOs es xq st fun ops st1 => ∃ xs F, opsGet st1 ops = some xs ∧ Φ f = some F ∧ F xs st1.g (fun r g => Q r (after ops r st1 g)) fun x g => xq x ⟨(st1.frzs (opsIx ops)).sl, g⟩
  | .blt f es, xq, st, Q => wpOs es xq st fun ops st1 => ∃ xs, opsGet st1 ops = some xs ∧ bltW f xs fun r => Q r st1
  | .isi k a, xq, st, Q => opd a.isVar (wpE a xq) st fun o st1 => ∃ x, o.get st1 = some (.d x) ∧ Q (.v (.d (.bool (match k, x with
      | .int, .int _ => true
      | .int, .bool _ => true
      | .bool, .bool _ => true
      | .str, .str _ => true
      | .tuple, .tuple _ => true
      | .list, .list _ => true
      | .dict, .dict _ => true
      | _, _ => false)))) st1
  | .mth m o es, xq, st, Q => opd o.isVar (wpE o xq) st fun o1 st1 => (∃ x, o1.get st1 = some x ∧ mthTy m x) ∧ wpOs es xq st1 fun ops st2 => ∃ x xs, o1.get st2 = some x ∧ opsGet st2 ops = some xs ∧ mthW m x xs fun r => Q r st2
  | .mut m i es, xq, st, Q => (∃ x, st.sl[i]? = some (.own x)) ∧ wpEs es xq st fun xs st' => ∃ ys ds, dats xs = some ys ∧ st'.sl[i]? = some (.own (.list ds)) ∧ mutW m ds ys fun y ds' => Q (.v (.d y)) ⟨st'.sl.set i (.own (.list ds')), st'.g⟩
  | .comp tg it ifs elt own, xq, st, Q => wpI it xq st fun items slots st1 =>
      compL (fun x s k => ∃ sl, bindT tg (.d x) (unset own s.sl) = some sl ∧ wpIfs ifs noX ⟨sl, s.g⟩ fun b s2 =>
          if b = true then wpE elt noX s2 fun r s3 => ∃ y, r.sv = .d y ∧ k (some y) s3 else k none s2) (fun s => ∀ i ∈ slots, SS.get ⟨unset own s.sl, s.g⟩ i = st1.get i) items []
        ⟨unset own (st1.frzs own).sl, st1.g⟩ fun acc s => Q (.f (.list acc)) ⟨back own (st1.frzs own).sl s.sl, s.g⟩
def wpEs : Es → XQ W → SS W → (List SV → SS W → Prop) → Prop
  | .nil, xq, st, K => K [] st
  | .cons e es, xq, st, K => wpE e xq st fun r st1 => wpEs es xq st1 fun xs st2 => K (r.sv :: xs) st2
def wpOs : Es → XQ W → SS W → (List Op → SS W → Prop) → Prop
  | .nil, xq, st, K => K [] st
  | .cons e es, xq, st, K => opd e.isVar (wpE e xq) st fun o st1 => wpOs es xq st1 fun os st2 => K (o :: os) st2
def wpEo : Eo → XQ W → SS W → (Option Int → SS W → Prop) → Prop
  | .none, xq, st, K => K none st
  | .some e, xq, st, K => wpE e xq st fun r st1 => ∃ i : Int, r.sv = .d (.int i) ∧ K (some i) st1
def wpIfs : Es → XQ W → SS W → (Bool → SS W → Prop) → Prop
  | .nil, xq, st, K => K true st
  | .cons e es, xq, st, K => opd e.isVar (wpE e xq) st fun o st1 => ∃ x t, o.get st1 = some x ∧ truthD x = some t ∧ if t = true then wpIfs es xq st1 K else K false st1
def wpI : Itr → XQ W → SS W → (List D → List Nat → SS W → Prop) → Prop
  | .seq e, xq, st, K => opd e.isVar (wpE e xq) st fun o st1 => ∃ x xs, o.get st1 = some x ∧ seqD x = some xs ∧ K xs (opsIx [o]) st1
  | .rng1 a, xq, st, K => wpE a xq st fun r st1 => ∃ j : Int, r.sv = .d (.int j) ∧ (-(2 ^ 62) ≤ j ∧ j < 2 ^ 62) ∧ K (rngI 0 j.toNat) [] st1
  | .rng2 a b, xq, st, K => wpE a xq st fun r st1 => wpE b xq st1 fun r2 st2 => ∃ i j : Int, r.sv = .d (.int i) ∧ r2.sv = .d (.int j) ∧ (-(2 ^ 62) ≤ i ∧ i < 2 ^ 62 ∧ -(2 ^ 62) ≤ j ∧ j < 2 ^ 62) ∧ K (rngI i (j - i).toNat) [] st2
  | .rng3 a b c, xq, st, K => wpE a xq st fun r st1 => wpE b xq st1 fun r2 st2 => wpE c xq st2 fun r3 st3 => ∃ (i j k : Int) (n : Nat), (r.sv = .d (.int i) ∧ r2.sv = .d (.int j) ∧ r3.sv = .d (.int k)) ∧ RgC i j k n ∧ K (rngC i k n) [] st3
  | .enum e, xq, st, K => opd e.isVar (wpE e xq) st fun o st1 => ∃ x xs, o.get st1 = some x ∧ seqD x = some xs ∧ K (enumD xs) (opsIx [o]) st1
  | .zip a b, xq, st, K => opd a.isVar (wpE a xq) st fun o1 st1 => opd b.isVar (wpE b xq) st1 fun o2 st2 => ∃ x xs y ys, o1.get st2 = some x ∧ o2.get st2 = some y ∧ seqD x = some xs ∧ seqD y = some ys ∧
      K (zipD xs ys) (opsIx [o1, o2]) st2
end
theorem opd_mono {v : Option Nat} {w w' : SS W → (Rs → SS W → Prop) → Prop} {st : SS W} {K K' : Op → SS W → Prop} (h : opd v w st K) (q : ∀ o s, K o s → K' o s) (hw : ∀ Q Q', w st Q → (∀ r s, Q r s → Q' r s) → w' st Q') : opd v w' st K' := by
  unfold opd at h ⊢
  cases v with
  | some i => exact ⟨h.1, q _ _ h.2⟩
  | none => exact hw _ _ h fun r s z => q _ _ z
theorem compL_mono {turn turn' : D → SS W → (Option D → SS W → Prop) → Prop} {gd : SS W → Prop} (ht : ∀ x s k k', turn x s k → (∀ o s, k o s → k' o s) → turn' x s k') :
    ∀ {items acc : List D} {st : SS W} {K K' : List D → SS W → Prop}, compL turn gd items acc st K → (∀ a s, K a s → K' a s) → compL turn' gd items acc st K'
  | [], _, _, _, _, h, q => ⟨h.1, q _ _ h.2⟩
  | x :: r, acc, st, K, K', h, q => ⟨h.1, ht _ _ _ _ h.2 fun o s z => by
      cases o with
      | some y => exact ⟨z.1, compL_mono ht z.2 q⟩
      | none => exact compL_mono ht z q⟩
theorem forL_mono {turn turn' : D → SS W → (SS W → Prop) → Prop} {gd : SS W → Prop} (ht : ∀ x s k k', turn x s k → (∀ s, k s → k' s) → turn' x s k') :
    ∀ {items : List D} {st : SS W} {K K' : SS W → Prop}, forL turn gd items st K → (∀ s, K s → K' s) → forL turn' gd items st K'
  | [], _, _, _, h, q => ⟨h.1, q _ h.2⟩
  | x :: r, st, K, K', h, q => ⟨h.1, ht _ _ _ _ h.2 fun s z => forL_mono ht z q⟩
mutual
theorem wpE_mono (hΦ : ∀ f F, Φ f = some F → Mono F) : ∀ (e : E) {xq : XQ W} {st : SS W} {Q Q' : Rs → SS W → Prop}, wpE Φ e xq st Q → (∀ r s, Q r s → Q' r s) → wpE Φ e xq st Q'
  | .var i, xq, st, Q, Q', h, q => by
    unfold wpE at h ⊢
    exact ⟨h.choose, h.choose_spec.1, q _ _ h.choose_spec.2⟩
  | .cst x, xq, st, Q, Q', h, q => by
    unfold wpE at h ⊢
    exact q _ _ h
  | .tup es, xq, st, Q, Q', h, q => by
    unfold wpE at h ⊢
    exact wpEs_mono hΦ es h fun xs s ⟨ds, e1, e2, z⟩ => ⟨ds, e1, e2, q _ _ z⟩
  | .lst es, xq, st, Q, Q', h, q => by
    unfold wpE at h ⊢
    exact wpEs_mono hΦ es h fun xs s ⟨ds, e1, e2, z⟩ => ⟨ds, e1, e2, q _ _ z⟩
  | .bin op a b, xq, st, Q, Q', h, q => by
    unfold wpE at h ⊢
    exact opd_mono h (fun o s h => opd_mono h (fun o s ⟨x, y, e1, e2, z⟩ => ⟨x, y, e1, e2, binW_mono z fun r z => q _ _ z⟩) fun Q Q' => wpE_mono hΦ b) fun Q Q' => wpE_mono hΦ a
  | .neg a, xq, st, Q, Q', h, q => by
    unfold wpE at h ⊢
    refine wpE_mono hΦ a h fun r s z => ?_
    unfold negW at z ⊢
    split at z
    · exact q _ _ z
    · exact z.elim
  | .cmp op a b, xq, st, Q, Q', h, q => by
    unfold wpE at h ⊢
    exact opd_mono h (fun o s h => opd_mono h (fun o s ⟨x, y, e1, e2, z⟩ => ⟨x, y, e1, e2, cmpW_mono z fun r z => q _ _ z⟩) fun Q Q' => wpE_mono hΦ b) fun Q Q' => wpE_mono hΦ a
  | .chain p1 p2 a b c, xq, st, Q, Q', h, q => by
    unfold wpE at h ⊢
    refine wpE_mono hΦ a h fun r s z => wpE_mono hΦ b z fun r2 s2 z2 => cmpW_mono z2 fun t z3 => ?_
    cases t with
    | true =>
      rw [if_pos rfl] at z3 ⊢
      exact wpE_mono hΦ c z3 fun r3 s3 z4 => cmpW_mono z4 fun t z => q _ _ z
    | false =>
      rw [if_neg Bool.false_ne_true] at z3 ⊢
      exact q _ _ z3
  | .and a b, xq, st, Q, Q', h, q => by
    unfold wpE at h ⊢
    refine opd_mono h (fun o s ⟨x, t, e1, e2, z⟩ => ⟨x, t, e1, e2, ?_⟩) fun Q Q' => wpE_mono hΦ a
    cases t with
    | true =>
      rw [if_pos rfl] at z ⊢
      exact wpE_mono hΦ b z q
    | false =>
      rw [if_neg Bool.false_ne_true] at z ⊢
      exact q _ _ z
  | .or a b, xq, st, Q, Q', h, q => by
    unfold wpE at h ⊢
    refine opd_mono h (fun o s ⟨x, t, e1, e2, z⟩ => ⟨x, t, e1, e2, ?_⟩) fun Q Q' => wpE_mono hΦ a
    cases t with
    | true =>
      rw [if_pos rfl] at z ⊢
      exact q _ _ z
    | false =>
      rw [if_neg Bool.false_ne_true] at z ⊢
      exact wpE_mono hΦ b z q
  | .not a, xq, st, Q, Q', h, q => by
    unfold wpE at h ⊢
    exact opd_mono h (fun o s ⟨x, t, e1, e2, z⟩ => ⟨x, t, e1, e2, q _ _ z⟩) fun Q Q' => wpE_mono hΦ a
  | .ife c a b, xq, st, Q, Q', h, q => by
    unfold wpE at h ⊢
    refine opd_mono h (fun o s ⟨x, t, e1, e2, z⟩ => ⟨x, t, e1, e2, ?_⟩) fun Q Q' => wpE_mono hΦ c
    cases t with
    | true =>
      rw [if_pos rfl] at z ⊢
      exact wpE_mono hΦ a z q
    | false =>
      rw [if_neg Bool.false_ne_true] at z ⊢
      exact wpE_mono hΦ b z q
  | .idx a b, xq, st, Q, Q', h, q => by
    unfold wpE at h ⊢
    exact opd_mono h (fun o s h => wpE_mono hΦ b h fun r s ⟨x, e1, z⟩ => ⟨x, e1, idxW_mono z fun r z => q _ _ z⟩) fun Q Q' => wpE_mono hΦ a
  | .cut a lo hi, xq, st, Q, Q', h, q => by
    unfold wpE at h ⊢
    exact opd_mono h (fun o s h => wpEo_mono hΦ lo h fun l s h => wpEo_mono hΦ hi h fun u s ⟨x, e1, z⟩ => ⟨x, e1, cutW_mono z fun r z => q _ _ z⟩) fun Q Q' => wpE_mono hΦ a
  | .rev a, xq, st, Q, Q', h, q => by
    unfold wpE at h ⊢
    exact opd_mono h (fun o s ⟨x, e1, z⟩ => ⟨x, e1, revW_mono z fun r z => q _ _ z⟩) fun Q Q' => wpE_mono hΦ a
  | .call f es, xq, st, Q, Q', h, q => by
    unfold wpE at h ⊢
    exact wpOs_mono hΦ es h fun ops s ⟨xs, F, e1, e2, z⟩ => ⟨xs, F, e1, e2, hΦ f F e2 _ _ _ _ _ _ z (fun r g z => q _ _ z) fun x g z => z⟩
  | .blt f es, xq, st, Q, Q', h, q => by
    unfold wpE at h ⊢
    exact wpOs_mono hΦ es h fun ops s ⟨xs, e1, z⟩ => ⟨xs, e1, bltW_mono z fun r z => q _ _ z⟩
  | .isi k a, xq, st, Q, Q', h, q => by
    unfold wpE at h ⊢
    exact opd_mono h (fun o s ⟨x, e1, z⟩ => ⟨x, e1, q _ _ z⟩) fun Q Q' => wpE_mono hΦ a
  | .mth m o es, xq, st, Q, Q', h, q => by
    unfold wpE at h ⊢
    exact opd_mono h (fun o s ⟨h0, h⟩ => ⟨h0, wpOs_mono hΦ es h fun ops s ⟨x, xs, e1, e2, z⟩ => ⟨x, xs, e1, e2, mthW_mono z fun r z => q _ _ z⟩⟩) fun Q Q' => wpE_mono hΦ o
  | .mut m i es, xq, st, Q, Q', h, q => by
    unfold wpE at h ⊢
    exact ⟨h.1, wpEs_mono hΦ es h.2 fun xs s ⟨ys, ds, e1, e2, z⟩ => ⟨ys, ds, e1, e2, mutW_mono z fun y ds' z => q _ _ z⟩⟩
  | .comp tg it ifs elt own, xq, st, Q, Q', h, q => by
    unfold wpE at h ⊢
    exact wpI_mono hΦ it h fun items gd s h => compL_mono (fun x s k k' ⟨sl, e1, z⟩ hk => ⟨sl, e1, wpIfs_mono hΦ ifs z fun b s2 z => by
      cases b with
      | true =>
        rw [if_pos rfl] at z ⊢
        exact wpE_mono hΦ elt z fun r s3 ⟨y, e2, z⟩ => ⟨y, e2, hk _ _ z⟩
      | false =>
        rw [if_neg Bool.false_ne_true] at z ⊢
        exact hk _ _ z⟩) h fun a s z => q _ _ z
theorem wpEs_mono (hΦ : ∀ f F, Φ f = some F → Mono F) : ∀ (es : Es) {xq : XQ W} {st : SS W} {K K' : List SV → SS W → Prop}, wpEs Φ es xq st K → (∀ r s, K r s → K' r s) → wpEs Φ es xq st K'
  | .nil, xq, st, K, K', h, q => by
    unfold wpEs at h ⊢
    exact q _ _ h
  | .cons e es, xq, st, K, K', h, q => by
    unfold wpEs at h ⊢
    exact wpE_mono hΦ e h fun r s h => wpEs_mono hΦ es h fun xs s z => q _ _ z
theorem wpOs_mono (hΦ : ∀ f F, Φ f = some F → Mono F) : ∀ (es : Es) {xq : XQ W} {st : SS W} {K K' : List Op → SS W → Prop}, wpOs Φ es xq st K → (∀ r s, K r s → K' r s) → wpOs Φ es xq st K'
  | .nil, xq, st, K, K', h, q => by
    unfold wpOs at h ⊢
    exact q _ _ h
  | .cons e es, xq, st, K, K', h, q => by
    unfold wpOs at h ⊢
    exact opd_mono h (fun o s h => wpOs_mono hΦ es h fun xs s z => q _ _ z) fun Q Q' => wpE_mono hΦ e
theorem wpEo_mono (hΦ : ∀ f F, Φ f = some F → Mono F) : ∀ (e : Eo) {xq : XQ W} {st : SS W} {K K' : Option Int → SS W → Prop}, wpEo Φ e xq st K → (∀ r s, K r s → K' r s) → wpEo Φ e xq st K'
  | .none, xq, st, K, K', h, q => by
    unfold wpEo at h ⊢
    exact q _ _ h
  | .some e, xq, st, K, K', h, q => by
    unfold wpEo at h ⊢
    exact wpE_mono hΦ e h fun r s ⟨i, e1, z⟩ => ⟨i, e1, q _ _ z⟩
theorem wpIfs_mono (hΦ : ∀ f F, Φ f = some F → Mono F) : ∀ (es : Es) {xq : XQ W} {st : SS W} {K K' : Bool → SS W → Prop}, wpIfs Φ es xq st K → (∀ r s, K r s → K' r s) → wpIfs Φ es xq st K'
  | .nil, xq, st, K, K', h, q => by
    unfold wpIfs at h ⊢
    exact q _ _ h
  | .cons e es, xq, st, K, K', h, q => by
    unfold wpIfs at h ⊢
    refine opd_mono h (fun o s ⟨x, t, e1, e2, z⟩ => ⟨x, t, e1, e2, ?_⟩) fun Q Q' => wpE_mono hΦ e
    cases t with
    | true =>
      rw [if_pos rfl] at z ⊢
      exact wpIfs_mono hΦ es z q
    | false =>
      rw [if_neg Bool.false_ne_true] at z ⊢
      exact q _ _ z
theorem wpI_mono (hΦ : ∀ f F, Φ f = some F → Mono F) : ∀ (it : Itr) {xq : XQ W} {st : SS W} {K K' : List D → List Nat → SS W → Prop}, wpI Φ it xq st K → (∀ xs g s, K xs g s → K' xs g s) → wpI Φ it xq st K'
  | .seq e, xq, st, K, K', h, q => by
    unfold wpI at h ⊢
    exact opd_mono h (fun o s ⟨x, xs, e1, e2, z⟩ => ⟨x, xs, e1, e2, q _ _ _ z⟩) fun Q Q' => wpE_mono hΦ e
  | .rng1 a, xq, st, K, K', h, q => by
    unfold wpI at h ⊢
    exact wpE_mono hΦ a h fun r s ⟨j, e1, e2, z⟩ => ⟨j, e1, e2, q _ _ _ z⟩
  | .rng2 a b, xq, st, K, K', h, q => by
    unfold wpI at h ⊢
    exact wpE_mono hΦ a h fun r s h => wpE_mono hΦ b h fun r s ⟨i, j, e0, e1, e2, z⟩ => ⟨i, j, e0, e1, e2, q _ _ _ z⟩
  | .rng3 a b c, xq, st, K, K', h, q => by
    unfold wpI at h ⊢
    exact wpE_mono hΦ a h fun r s h => wpE_mono hΦ b h fun r s h => wpE_mono hΦ c h fun r s ⟨i, j, k, n, e0, e1, z⟩ => ⟨i, j, k, n, e0, e1, q _ _ _ z⟩
  | .enum e, xq, st, K, K', h, q => by
    unfold wpI at h ⊢
    exact opd_mono h (fun o s ⟨x, xs, e1, e2, z⟩ => ⟨x, xs, e1, e2, q _ _ _ z⟩) fun Q Q' => wpE_mono hΦ e
  | .zip a b, xq, st, K, K', h, q => by
    unfold wpI at h ⊢
    exact opd_mono h (fun o s h => opd_mono h (fun o s ⟨x, xs, y, ys, e1, e2, e3, e4, z⟩ => ⟨x, xs, y, ys, e1, e2, e3, e4, q _ _ _ z⟩) fun Q Q' => wpE_mono hΦ b) fun Q Q' => wpE_mono hΦ a
end
def wpRs : Es → XQ W → SS W → (List Rs → SS W → Prop) → Prop
  | .nil, xq, st, K => K [] st
  | .cons e es, xq, st, K => wpE Φ e xq st fun r st1 => wpRs es xq st1 fun rs st2 => K (r :: rs) st2
/-- a test -/
def wpT (e : E) (xq : XQ W) (st : SS W) (K : Bool → SS W → Prop) : Prop := opd e.isVar (wpE Φ e xq) st fun o st1 => ∃ x t, o.get st1 = some x ∧ truthD x = some t ∧ K t st1

/-- a op= b -/
def augW (op : Bop) (x y : SV) (Q : D → Prop) : Prop :=
  match op, x, y with
  | .add, .d (.int i), .d (.int j) => Q (.int (i + j))
  | .sub, .d (.int i), .d (.int j) => Q (.int (i - j))
  | _, _, _ => False
structure Po (W : Wd) where
  nx : SS W → Prop
  rt : Rs → SS W → Prop
  bk : SS W → Prop := fun _ => False
  ct : SS W → Prop := fun _ => False
  xq : XQ W := noX

mutual
def wpS : Stm → SS W → Po W → Prop
  | .asg (.nm i) e, st, P => wpE Φ e P.xq st fun r st' => P.nx (st'.put i r)
  | .asg (.tup ts) e, st, P => wpE Φ e P.xq st fun r st' => ∃ sl, bindT (.tup ts) r.sv st'.sl = some sl ∧ P.nx ⟨sl, st'.g⟩
  | .par is es, st, P => wpRs Φ es P.xq st fun rs st' => rs.length = is.length ∧ P.nx (st'.puts is rs)
  | .aug i op e, st, P => ∃ x, st.get i = some x ∧ wpE Φ e P.xq st fun r st' => augW op x r.sv fun y => P.nx (st'.put i (.v (.d y)))
  | .setI i k e, st, P => (∃ x, st.sl[i]? = some (.own x)) ∧ wpE Φ e P.xq st fun r st1 => wpE Φ k P.xq st1 fun rk st2 => ∃ ds z j y, st2.sl[i]? = some (.own (.list ds)) ∧ rk.sv = .d (.int z) ∧ ixN ds.length z = some j ∧ r.sv = .d y ∧
      P.nx ⟨st2.sl.set i (.own (.list (ds.set j y))), st2.g⟩
  | .expr e, st, P => wpE Φ e P.xq st fun _ st' => P.nx st'
  | .ret e, st, P => match e.isVar with
    | some i => match st.sl[i]? with
      | some (.own x) => P.rt (.f x) ⟨st.sl.set i .un, st.g⟩
      | some (.val x) => P.rt (.v x) st
      | _ => False
    | none => wpE Φ e P.xq st P.rt
  | .ret0, st, P => P.rt (.v (.d .none)) st
  | .ife c a b, st, P => wpT Φ c P.xq st fun t st1 => if t = true then wpSs a st1 P else wpSs b st1 P
  | .forr tg it body, st, P => wpI Φ it P.xq st fun items slots st1 =>
      forL (fun x s k => ∃ sl, bindT tg (.d x) s.sl = some sl ∧ wpSs body ⟨sl, s.g⟩ ⟨k, P.rt, P.nx, k, P.xq⟩) (fun _ => True) items (st1.frzs slots) P.nx
  | .whl c body, st, P => ∃ Iv : Nat → SS W → Prop, (∃ n, Iv n st) ∧ ∀ n s, Iv n s → wpT Φ c P.xq s fun t s1 =>
      if t = true then wpSs body s1 ⟨fun s2 => ∃ m, m < n ∧ Iv m s2, P.rt, P.nx, fun s2 => ∃ m, m < n ∧ Iv m s2, P.xq⟩ else P.nx s1
  | .brk, st, P => P.bk st
  | .cnt, st, P => P.ct st
  | .pass, st, P => P.nx st
def wpSs : List Stm → SS W → Po W → Prop
  | [], st, P => P.nx st
  | s :: r, st, P => wpS s st ⟨fun st' => wpSs r st' P, P.rt, P.bk, P.ct, P.xq⟩
end
end
end PD
/-! PD3: the machine's operations, by data. -/
namespace PD
open PySem L2 PySem.Spec PyProof.Rows

def Bop.op : Bop → Operator
  | .add => .Add
  | .sub => .Sub
  | .mul => .Mult
  | .fdiv => .FloorDiv
  | .mod => .Mod
  | .pow => .Pow
def Cop.op : Cop → CmpOp
  | .eq => .Eq
  | .ne => .NotEq
  | .lt => .Lt
  | .le => .LtE
  | .gt => .Gt
  | .ge => .GtE
  | .isn => .Is
  | .nisn => .IsNot
  | .inn => .In
  | .nin => .NotIn

/-- two operands in a heap -/
def In2 (v u : V) (H : Hp) (R : Hp → SV → SV → Prop) : Prop := ∃ S x y, Sub S H ∧ BR S H v x ∧ BR S H u y ∧ R S x y

theorem timesS_eq (x : Str) : ∀ k : Nat, timesS x k = ⟨(List.replicate k x.cps).foldl (· ++ ·) #[]⟩
  | 0 => rfl
  | k + 1 => by
    have e := timesS_eq x k
    rw [timesS, e, List.replicate_succ', List.foldl_append]
    rfl

section
variable {X : Cx}
theorem mulS_ok {pins : List (Addr × Obj)} {s : Shared} {σ : L2.St} {H : Hp} {a : Str} {j : Int} {t u : Tok} {Q : VK} (I : Inv X pins σ H s)
    (h0 : 0 ≤ j) (h1 : j ≤ 1000) (h2 : a.length ≤ 1000) (q : Q (.str (timesS a j.toNat)) H) :
    wpAny (model X.prog X.w) X.A (binaryOp .Mult (.str a t) (.int j u)) (EP X pins σ Q) X.xe s := by
  have hz : sizeLine = 16777216 := sizeLine_eq
  have hb : a.length * j.toNat ≤ 1000000 := by
    have := Nat.mul_le_mul h2 (show j.toNat ≤ 1000 by omega)
    omega
  refine PySem.P.mul_str ?_ (fun h3 _ => ?_) (fun _ _ => ?_) ?_
  · rw [decide_eq_false (by omega), decide_eq_false (by omega)]; rfl
  · have : (9223372036854775807 : Int) / 1000 ≤ (2 ^ 63 - 1) / j := by
      refine Int.le_ediv_of_mul_le (by omega) ?_
      have : (9223372036854775807 : Int) / 1000 * j ≤ (9223372036854775807 : Int) / 1000 * 1000 := Int.mul_le_mul_of_nonneg_left h1 (by decide)
      exact Int.le_trans this (by decide)
    have h4 : (9223372036854775807 : Int) / 1000 = 9223372036854775 := by decide
    omega
  · unfold Builtin.Str.tooLong
    first
      | exact decide_eq_false (by omega)
      | (simp only [decide_eq_false_iff_not]; omega)
  · rw [timesS_eq] at q
    by_cases c1 : j < 1
    · have e : j = 0 := by omega
      subst e
      rw [if_pos c1]
      exact ⟨by decide, ⟨.str _, H, I.tok _, ⟨_, rfl⟩, q⟩⟩
    · rw [if_neg c1]
      by_cases c2 : (j == 1 || a.length == 0) = true
      · rw [if_pos c2]
        refine ⟨.str a, H, I, ⟨_, rfl⟩, ?_⟩
        have e : (⟨(List.replicate j.toNat a.cps).foldl (· ++ ·) #[]⟩ : Str) = a := by
          rw [← timesS_eq]
          rcases Bool.or_eq_true _ _ ▸ c2 with c | c
          · have e1 : j = 1 := by simpa using c
            subst e1
            show timesS a 1 = a
            unfold timesS timesS
            obtain ⟨x⟩ := a
            show (⟨#[] ++ x⟩ : Str) = ⟨x⟩
            simp
          · have e1 : a.cps = #[] := by
              have : a.cps.size = 0 := by simpa [Str.length] using c
              exact Array.eq_empty_of_size_eq_zero this
            have : ∀ k, timesS a k = ⟨#[]⟩ := fun k => by
              induction k with
              | zero => rfl
              | succ k ih =>
                rw [timesS, ih]
                obtain ⟨x⟩ := a
                subst e1
                rfl
            rw [this]
            obtain ⟨x⟩ := a
            subst e1
            rfl
        rw [e] at q
        exact q
      · rw [if_neg c2]
        refine ⟨?_, ⟨.str _, H, I.tok _, ⟨_, rfl⟩, q⟩⟩
        rw [← timesS_eq]
        have : ∀ k, (timesS a k).length = a.length * k := fun k => by
          induction k with
          | zero => rfl
          | succ k ih =>
            rw [timesS]
            have : (timesS a k ++ a).length = (timesS a k).length + a.length := by
              first
                | exact Str.length_append _ _
                | (show ((timesS a k).cps ++ a.cps).size = _; rw [Array.size_append]; rfl)
            rw [this, ih, Nat.mul_succ]
        rw [this]
        omega

theorem bin_ok (op : Bop) : OpR X (binaryOp op.op) (fun v u H Q => In2 v u H fun S x y => binW op x y fun r => ∀ v' H', Out S H r v' H' → Q v' H') := by
  intro pins s σ H v u vv uu Q I rv ru h
  obtain ⟨S, x, y, sb, bx, hy, h⟩ := h
  have int1 : ∀ {z : Int}, (∀ v' H', Out S H (.v (.d (.int z))) v' H' → Q v' H') → Q (.int z) H := fun q => q _ _ (.same (Rp.int _))
  unfold binW at h
  split at h
  · cases bx.int; cases hy.int
    exact op_add pins s σ H _ _ vv uu Q I rv ru ⟨_, _, rfl, rfl, int1 h⟩
  · cases bx.str; cases hy.str
    exact op_add_str pins s σ H _ _ vv uu Q I rv ru ⟨_, _, rfl, rfl, h.1, h.2 _ _ (.same (Rp.str _))⟩
  · obtain ⟨a, xs, rfl, ha, ra⟩ := bx.list sb
    obtain ⟨b, ys, rfl, hb, rb⟩ := hy.list sb
    exact op_cat pins s σ H _ _ vv uu Q I rv ru ⟨_, _, _, _, rfl, rfl, ha, hb, by rw [ra.length, rb.length]; exact h.1, fun p hp => h.2 _ _ (.lst hp (ra.append rb))⟩
  · obtain ⟨a, xs, rfl, sa, ha, ra⟩ := bx.tuple sb
    obtain ⟨b, ys, rfl, sbb, hb, rb⟩ := hy.tuple sb
    refine op_catA pins s σ H _ _ vv uu Q I rv ru ⟨_, _, _, _, rfl, rfl, SqT.of ha, SqT.of hb, by rw [ra.length, rb.length]; exact h.1, fun e => ?_, fun _ e => ?_, fun _ _ p hp => h.2 _ _ (.tup hp (ra.append rb))⟩
    · subst e
      cases ra
      exact h.2 _ _ (.same (Rp.tup sbb rb))
    · subst e
      cases rb
      rw [List.append_nil] at h
      exact h.2 _ _ (.same (Rp.tup sa ra))
  · cases bx.int; cases hy.int
    exact op_sub pins s σ H _ _ vv uu Q I rv ru ⟨_, _, rfl, rfl, int1 h⟩
  · cases bx.int; cases hy.int
    exact op_mul pins s σ H _ _ vv uu Q I rv ru ⟨_, _, rfl, rfl, h.1, int1 h.2⟩
  · cases bx.str; cases hy.int
    obtain ⟨t, rfl⟩ := rv
    obtain ⟨t', rfl⟩ := ru
    exact mulS_ok I h.1.1 h.1.2.1 h.1.2.2 (h.2 _ _ (.same (Rp.str _)))
  · obtain ⟨a, xs, rfl, ha, ra⟩ := bx.list sb
    cases hy.int
    exact op_rep pins s σ H _ _ vv uu Q I rv ru ⟨_, _, _, rfl, rfl, ha, h.1.1, h.1.2.1, by rw [ra.length]; exact h.1.2.2, fun p hp => h.2 _ _ (.lst hp (ra.rep _))⟩
  · cases bx.int; cases hy.int
    exact op_fdiv pins s σ H _ _ vv uu Q I rv ru ⟨_, _, rfl, rfl, h.1, int1 h.2⟩
  · cases bx.int; cases hy.int
    exact op_mod pins s σ H _ _ vv uu Q I rv ru ⟨_, _, rfl, rfl, h.1, int1 h.2⟩
  · cases bx.int; cases hy.int
    exact op_pow pins s σ H _ _ vv uu Q I rv ru ⟨_, _, rfl, rfl, h.1, int1 h.2⟩
  · exact h.elim

theorem neg_ok : UnR X (unaryOp .USub) (fun v H Q => ∃ S x, Sub S H ∧ BR S H v x ∧ negW x fun r => ∀ v' H', Out S H r v' H' → Q v' H') := by
  intro pins s σ H v vv Q I rv h
  obtain ⟨S, x, sb, bx, h⟩ := h
  unfold negW at h
  split at h
  · cases bx.int
    exact un_neg pins s σ H _ vv Q I rv ⟨_, rfl, h _ _ (.same (Rp.int _))⟩
  · exact h.elim

theorem noneD_ok {S H : Hp} {v : V} {a : D} (s : Sub S H) (h : BR S H v (.d a)) : decide (v = V.non) = isNoneD a := by
  rcases h with h | ⟨a, xs, ds, rfl, rfl, e, r⟩
  · cases h <;> simp [isNoneD]
  · simp [isNoneD]

theorem cmp_ok (hu : X.A.units + 65 < cLine) (op : Cop) : OpR X (compareOp op.op) (fun v u H Q => In2 v u H fun S x y => cmpW op x y fun r => Q (.bl r) H) := by
  intro pins s σ H v u vv uu Q I rv ru h
  obtain ⟨S, x, y, sb, bx, hy, h⟩ := h
  have hu' : X.A.units + 64 < cLine := by omega
  cases op with
  | eq =>
    dsimp only [cmpW] at h
    obtain ⟨hc, q⟩ := h
    unfold eqC at hc
    split at hc
    · cases bx.int; cases hy.int
      exact op_eq pins s σ H _ _ vv uu Q I rv ru ⟨rfl, by rw [dec_int]; exact q⟩
    · cases bx.str; cases hy.str
      exact op_eq pins s σ H _ _ vv uu Q I rv ru ⟨rfl, by rw [dec_str]; exact q⟩
    · exact op_eqD hu' pins s σ H _ _ vv uu Q I rv ru ⟨_, _, Rp.dp _ _ (bx.full sb), Rp.dp _ _ (hy.full sb), hc.1, hc.2, q⟩
    · exact hc.elim
  | ne =>
    dsimp only [cmpW] at h
    obtain ⟨hc, q⟩ := h
    unfold eqC at hc
    split at hc
    · cases bx.int; cases hy.int
      exact op_ne pins s σ H _ _ vv uu Q I rv ru ⟨rfl, by rw [dec_int]; exact q⟩
    · cases bx.str; cases hy.str
      exact op_ne pins s σ H _ _ vv uu Q I rv ru ⟨rfl, by rw [dec_str]; exact q⟩
    · exact op_neD hu' pins s σ H _ _ vv uu Q I rv ru ⟨_, _, Rp.dp _ _ (bx.full sb), Rp.dp _ _ (hy.full sb), hc.1, hc.2, q⟩
    · exact hc.elim
  | lt =>
    dsimp only [cmpW] at h
    split at h
    · cases bx.int; cases hy.int
      exact op_lt pins s σ H _ _ vv uu Q I rv ru ⟨_, _, rfl, rfl, h⟩
    · cases bx.str; cases hy.str
      exact op_lt_str pins s σ H _ _ vv uu Q I rv ru ⟨_, _, rfl, rfl, h⟩
    · exact h.elim
  | le =>
    dsimp only [cmpW] at h
    split at h
    · cases bx.int; cases hy.int
      exact op_le pins s σ H _ _ vv uu Q I rv ru ⟨_, _, rfl, rfl, h⟩
    · exact h.elim
  | gt =>
    dsimp only [cmpW] at h
    split at h
    · cases bx.int; cases hy.int
      exact op_gt pins s σ H _ _ vv uu Q I rv ru ⟨_, _, rfl, rfl, h⟩
    · exact h.elim
  | ge =>
    dsimp only [cmpW] at h
    split at h
    · cases bx.int; cases hy.int
      exact op_ge pins s σ H _ _ vv uu Q I rv ru ⟨_, _, rfl, rfl, h⟩
    · exact h.elim
  | isn =>
    dsimp only [cmpW] at h
    split at h
    · cases hy.none
      refine op_isN pins s σ H _ _ vv uu Q I rv ru ⟨rfl, ?_⟩
      rw [noneD_ok sb bx]
      exact h
    · exact h.elim
  | nisn =>
    dsimp only [cmpW] at h
    split at h
    · cases hy.none
      refine op_notN pins s σ H _ _ vv uu Q I rv ru ⟨rfl, ?_⟩
      rw [noneD_ok sb bx]
      exact h
    · exact h.elim
  | inn =>
    dsimp only [cmpW] at h
    split at h
    · exact op_inD hu pins s σ H _ _ vv uu Q I rv ru ⟨_, _, Rp.dp _ _ (bx.full sb), Rp.dp _ _ (hy.full sb), h.1, h.2.1, h.2.2⟩
    · obtain ⟨as, r1⟩ := Dp.reads I _ v vv (Rp.dp _ _ (bx.full sb)) rv
      obtain ⟨bs, r2⟩ := Dp.reads I _ u uu (Rp.dp _ _ (hy.full sb)) ru
      exact SeqAt.in_tuple_reads r2 r1 (SeqAt.canLay_of_shaped h.2.1) (SeqAt.canLay_of_shaped h.1) (room_in_shaped h.1 hu) ⟨.bl _, H, I, rfl, h.2.2⟩
    · cases bx.str; cases hy.str
      exact op_in_str pins s σ H _ _ vv uu Q I rv ru ⟨_, _, rfl, rfl, h⟩
    · exact h.elim
  | nin =>
    dsimp only [cmpW] at h
    split at h
    · exact op_notInD hu pins s σ H _ _ vv uu Q I rv ru ⟨_, _, Rp.dp _ _ (bx.full sb), Rp.dp _ _ (hy.full sb), h.1, h.2.1, h.2.2⟩
    · obtain ⟨as, r1⟩ := Dp.reads I _ v vv (Rp.dp _ _ (bx.full sb)) rv
      obtain ⟨bs, r2⟩ := Dp.reads I _ u uu (Rp.dp _ _ (hy.full sb)) ru
      exact SeqAt.notIn_tuple_reads r2 r1 (SeqAt.canLay_of_shaped h.2.1) (SeqAt.canLay_of_shaped h.1) (room_in_shaped h.1 hu) ⟨.bl _, H, I, rfl, h.2.2⟩
    · cases bx.str; cases hy.str
      exact op_notIn_str pins s σ H _ _ vv uu Q I rv ru ⟨_, _, rfl, rfl, h⟩
    · exact h.elim

theorem truV_of {K : PySem.W.Frag} {S H : Hp} {v : V} {x : SV} {t : Bool} (sb : Sub S H) (bx : BR S H v x) (e : truthD x = some t) : TruV K v H t := by
  unfold truthD at e
  split at e
  · cases bx.none; cases e; rfl
  · cases bx.bool; cases e; rfl
  · cases bx.int; cases e; rfl
  · cases bx.str
    split at e
    · rename_i hz
      cases e
      exact ⟨hz, rfl⟩
    · cases e
  · obtain ⟨a, xs, rfl, ha, ra⟩ := bx.list sb
    cases e
    exact .inl ⟨xs, SqL.of ha, by rw [ra.isEmpty]⟩
  · obtain ⟨a, xs, rfl, _, ha, ra⟩ := bx.tuple sb
    cases e
    exact .inr (.inl ⟨xs, SqT.of ha, by rw [ra.isEmpty]⟩)
  · cases e

theorem RpAll.atI {S : Hp} {vs : List V} {ds : List D} {i : Int} {z : D} (r : RpAll S vs ds) (h : L2.atI ds i = some z) : ∃ v, L2.atI vs i = some v ∧ Rp S v z := by
  unfold L2.atI at h ⊢
  rw [r.length]
  cases e : ixN ds.length i with
  | none => rw [e] at h; cases h
  | some j =>
    rw [e] at h
    exact r.get h

theorem idx_ok : IxR X (fun v u H Q => In2 v u H fun S x y => idxW x y fun r => ∀ v' H', Out S H r v' H' → Q v' H') := by
  intro value slice pins s σ H v u vv uu Q I rv ru h hs
  obtain ⟨S, x, y, sb, bx, hy, h⟩ := h
  unfold idxW at h
  split at h
  · obtain ⟨a, xs, rfl, ha, ra⟩ := bx.list sb
    cases hy.int
    obtain ⟨z, hz, q⟩ := h
    obtain ⟨w, hw, rw'⟩ := ra.atI hz
    exact ix_list value slice pins s σ H _ _ vv uu Q I rv ru ⟨_, _, _, _, rfl, rfl, SqL.of ha, hw, q _ _ (.same rw')⟩ hs
  · obtain ⟨a, xs, rfl, _, ha, ra⟩ := bx.tuple sb
    cases hy.int
    obtain ⟨z, hz, q⟩ := h
    obtain ⟨w, hw, rw'⟩ := ra.atI hz
    exact ix_tup value slice pins s σ H _ _ vv uu Q I rv ru ⟨_, _, _, _, rfl, rfl, SqT.of ha, hw, q _ _ (.same rw')⟩ hs
  · cases bx.str; cases hy.int
    obtain ⟨hz, c, hc, q⟩ := h
    exact ix_str value slice pins s σ H _ _ vv uu Q I rv ru ⟨_, _, _, rfl, rfl, hz, hc, q _ _ (.same (Rp.str _))⟩ hs
  · exact h.elim

theorem cutD_all {S : Hp} {vs : List V} {ds : List D} (r : RpAll S vs ds) (lo hi : Option Int) : RpAll S (cutV vs lo hi) (cutD ds lo hi) := by
  unfold cutV cutD
  rw [r.length]
  exact (r.drop _).take _
theorem cutD_whole {α : Type} {xs : List α} {lo hi : Option Int} (h : HT.sIx xs.length 0 lo = 0 ∧ HT.sIx xs.length xs.length hi = xs.length) : cutD xs lo hi = xs := by
  unfold cutD
  rw [h.1, h.2]
  simp

theorem cut_ok : SlR X (fun v lo hi H Q => ∃ S x, Sub S H ∧ BR S H v x ∧ cutW x lo hi fun r => ∀ v' H', Out S H r v' H' → Q v' H') := by
  intro pins s σ H v vv vl vu l h' sl Q I rv hs pl pu h
  obtain ⟨S, x, sb, bx, h⟩ := h
  unfold cutW at h
  split at h
  · obtain ⟨a, xs, rfl, ha, ra⟩ := bx.list sb
    exact sl_list pins s σ H _ vv vl vu _ _ sl Q I rv hs pl pu ⟨_, _, rfl, SqL.of ha, fun p hp => h _ _ (.lst hp (cutD_all ra _ _))⟩
  · obtain ⟨a, xs, rfl, sa, ha, ra⟩ := bx.tuple sb
    refine sl_tupA pins s σ H _ vv vl vu _ _ sl Q I rv hs pl pu ⟨_, _, rfl, SqT.of ha, fun hw => ?_, fun hw p hp => h _ _ (.tup hp (cutD_all ra _ _))⟩
    rw [ra.length] at hw
    rw [cutD_whole hw] at h
    exact h _ _ (.same (Rp.tup sa ra))
  · cases bx.str
    exact sl_str pins s σ H _ vv vl vu _ _ sl Q I rv hs pl pu ⟨_, rfl, h.1, h.2 _ _ (.same (Rp.str _))⟩
  · exact h.elim
end
end PD
/-! PD3b: built-in functions and methods, by data. -/
namespace PD
open PySem L2 PySem.Spec PyProof.Rows

def Bf.val : Bf → Value
  | .len => .builtin "len"
  | .list => .type "list"
  | .tuple => .type "tuple"
  | .int => .type "int"
  | .abs => .builtin "abs"
  | .repr => .builtin "repr"
  | .str => .type "str"
  | .min => .builtin "min"
  | .max => .builtin "max"
  | .sum => .builtin "sum"
  | .sorted => .builtin "sorted"
  | .all => .builtin "all"
  | .any => .builtin "any"
  | .isi => .builtin "isinstance"
  | .range => .type "range"
  | .bool => .type "bool"

theorem intsOf_map : ∀ {ds : List D} {ns : List Int}, intsOf ds = some ns → ds = ns.map PyData.int
  | [], _, h => by
    simp [intsOf] at h
    subst h
    rfl
  | .int x :: r, ns, h => by
    simp only [intsOf] at h
    cases e : intsOf r with
    | none => rw [e] at h; cases h
    | some xs =>
      rw [e] at h
      cases h
      rw [intsOf_map e]
      rfl
  | .none :: _, _, h => by simp [intsOf] at h
  | .bool _ :: _, _, h => by simp [intsOf] at h
  | .str _ :: _, _, h => by simp [intsOf] at h
  | .list _ :: _, _, h => by simp [intsOf] at h
  | .tuple _ :: _, _, h => by simp [intsOf] at h
  | .dict _ :: _, _, h => by simp [intsOf] at h
theorem strsOf_map : ∀ {ds : List D} {ns : List Str}, strsOf ds = some ns → ds = ns.map PyData.str
  | [], _, h => by
    simp [strsOf] at h
    subst h
    rfl
  | .str x :: r, ns, h => by
    simp only [strsOf] at h
    cases e : strsOf r with
    | none => rw [e] at h; cases h
    | some xs =>
      rw [e] at h
      cases h
      rw [strsOf_map e]
      rfl
  | .none :: _, _, h => by simp [strsOf] at h
  | .bool _ :: _, _, h => by simp [strsOf] at h
  | .int _ :: _, _, h => by simp [strsOf] at h
  | .list _ :: _, _, h => by simp [strsOf] at h
  | .tuple _ :: _, _, h => by simp [strsOf] at h
  | .dict _ :: _, _, h => by simp [strsOf] at h

theorem BRs.one {S H : Hp} {vs : List V} {x : SV} (h : BRs S H vs [x]) : ∃ v, vs = [v] ∧ BR S H v x := by
  cases h with
  | cons a b => cases b; exact ⟨_, rfl, a⟩
theorem BRs.two {S H : Hp} {vs : List V} {x y : SV} (h : BRs S H vs [x, y]) : ∃ v u, vs = [v, u] ∧ BR S H v x ∧ BR S H u y := by
  cases h with
  | cons a b =>
    cases b with
    | cons c d => cases d; exact ⟨_, _, rfl, a, c⟩

section
variable {X : Cx}
theorem repr_ok (hg : X.A.guards = some []) (hu : X.A.units + 66 < cLine) : CallR X (.builtin "repr") (fun vs H Q => ∃ v x, vs = [v] ∧ Rp H v x ∧ Shp x ∧ x.showable = true ∧ x.shown.length ≤ sizeLine ∧ Q (.str x.shown) H) := by
  intro pins s σ H vs us Q I r h
  obtain ⟨v, x, rfl, hx, sh, hs, hz, q⟩ := h
  obtain ⟨u, rfl, ru⟩ := vals1 r
  cases hx with
  | non => cases ru; exact PySem.P.repr_of_none ⟨.str _, H, I.tok _, ⟨_, rfl⟩, q⟩
  | bl b => cases ru; exact PySem.P.repr_of_bool ⟨.str _, H, I.tok _, ⟨_, rfl⟩, q⟩
  | int i =>
    obtain ⟨t, rfl⟩ := ru
    have hl : i.natAbs.log2 < 1920 := by
      simp only [PyData.showable, decide_eq_true_eq] at hs
      exact hs
    exact PySem.P.repr_of_int hl ⟨.str _, H, I.tok _, ⟨_, rfl⟩, q⟩
  | str z =>
    obtain ⟨t, rfl⟩ := ru
    refine PySem.P.repr_of_str ⟨.str _, H, I.tok _, ⟨_, rfl⟩, q⟩ ?_
    simpa only [PyData.shown] using hz
  | lst h1 h2 =>
    cases ru
    have hd := SeqAt.depth_of_shaped sh
    obtain ⟨as, rr⟩ := Dp.reads I _ _ _ (Rp.dp (K := X.K) _ _ (Rp.lst h1 h2)) rfl
    exact repr_of_reads' rr hs (PyData.noDict_hsm (PyData.hasDict_of_canLay _ (SeqAt.canLay_of_shaped sh))) hg (by omega) (fun _ _ e => e)
      (fun h' u tk hk => ⟨.str _, H, I.kept hk, ⟨_, rfl⟩, q⟩) hz
  | tup h1 h2 =>
    cases ru
    have hd := SeqAt.depth_of_shaped sh
    obtain ⟨as, rr⟩ := Dp.reads I _ _ _ (Rp.dp (K := X.K) _ _ (Rp.tup h1 h2)) rfl
    exact repr_of_reads' rr hs (PyData.noDict_hsm (PyData.hasDict_of_canLay _ (SeqAt.canLay_of_shaped sh))) hg (by omega) (fun _ _ e => e)
      (fun h' u tk hk => ⟨.str _, H, I.kept hk, ⟨_, rfl⟩, q⟩) hz

theorem blt_ok (hc : X.calm = true) (hg : X.A.guards = some []) (hu : X.A.units + 66 < cLine) (f : Bf) :
    CallR X f.val (fun vs H Q => ∃ S xs, Sub S H ∧ BRs S H vs xs ∧ bltW f xs fun r => ∀ v' H', Out S H r v' H' → Q v' H') := by
  intro pins s σ H vs us Q I r h
  obtain ⟨S, xs, sb, bs, h⟩ := h
  unfold bltW at h
  split at h
  · obtain ⟨v, rfl, bx⟩ := bs.one
    obtain ⟨a, ys, rfl, ha, ra⟩ := bx.list sb
    refine call_len_seq pins s σ H _ us Q I r ⟨_, _, rfl, .inl (SqL.of ha), ?_⟩
    rw [ra.length]
    exact h _ _ (.same (Rp.int _))
  · obtain ⟨v, rfl, bx⟩ := bs.one
    obtain ⟨a, ys, rfl, _, ha, ra⟩ := bx.tuple sb
    refine call_len_seq pins s σ H _ us Q I r ⟨_, _, rfl, .inr (SqT.of ha), ?_⟩
    rw [ra.length]
    exact h _ _ (.same (Rp.int _))
  · obtain ⟨v, rfl, bx⟩ := bs.one
    cases bx.str
    exact call_len_str pins s σ H _ us Q I r ⟨_, rfl, h.1, h.2 _ _ (.same (Rp.int _))⟩
  · obtain ⟨v, rfl, bx⟩ := bs.one
    obtain ⟨a, ys, rfl, ha, ra⟩ := bx.list sb
    exact call_list_of pins s σ H _ us Q I r ⟨_, _, rfl, .inl (SqL.of ha), fun p hp => h _ _ (.lst hp ra)⟩
  · obtain ⟨v, rfl, bx⟩ := bs.one
    obtain ⟨a, ys, rfl, _, ha, ra⟩ := bx.tuple sb
    exact call_list_of pins s σ H _ us Q I r ⟨_, _, rfl, .inr (SqT.of ha), fun p hp => h _ _ (.lst hp ra)⟩
  · obtain ⟨v, rfl, bx⟩ := bs.one
    obtain ⟨a, ys, rfl, ha, ra⟩ := bx.list sb
    exact call_tuple_of pins s σ H _ us Q I r ⟨_, _, rfl, .inl ⟨SqL.of ha, fun p hp => h _ _ (.tup hp ra)⟩⟩
  · obtain ⟨v, rfl, bx⟩ := bs.one
    obtain ⟨a, ys, rfl, sa, ha, ra⟩ := bx.tuple sb
    exact call_tuple_of pins s σ H _ us Q I r ⟨_, _, rfl, .inr ⟨SqT.of ha, h _ _ (.same (Rp.tup sa ra))⟩⟩
  · obtain ⟨v, rfl, bx⟩ := bs.one
    cases bx.int
    exact call_int1 pins s σ H _ us Q I r (.inl ⟨_, rfl, h _ _ (.same (Rp.int _))⟩)
  · obtain ⟨v, rfl, bx⟩ := bs.one
    cases bx.bool
    exact call_int1 pins s σ H _ us Q I r (.inr ⟨_, rfl, h _ _ (.same (Rp.int _))⟩)
  · obtain ⟨v, rfl, bx⟩ := bs.one
    cases bx.int
    exact call_abs pins s σ H _ us Q I r ⟨_, rfl, h _ _ (.same (Rp.int _))⟩
  · obtain ⟨v, rfl, bx⟩ := bs.one
    cases bx.int
    exact call_str_int pins s σ H _ us Q I r ⟨_, rfl, h.1, h.2 _ _ (.same (Rp.str _))⟩
  · obtain ⟨v, rfl, bx⟩ := bs.one
    exact repr_ok hg hu pins s σ H _ us Q I r ⟨_, _, rfl, bx.full sb, h.1.1, h.1.2.1, h.1.2.2, h.2 _ _ (.same (Rp.str _))⟩
  · obtain ⟨v, u, rfl, bx, hy⟩ := bs.two
    cases bx.int; cases hy.int
    exact call_min2 hc pins s σ H _ us Q I r ⟨_, _, rfl, h _ _ (.same (Rp.int _))⟩
  · obtain ⟨v, u, rfl, bx, hy⟩ := bs.two
    cases bx.int; cases hy.int
    exact call_max2 hc pins s σ H _ us Q I r ⟨_, _, rfl, h _ _ (.same (Rp.int _))⟩
  · obtain ⟨v, rfl, bx⟩ := bs.one
    obtain ⟨a, ys, rfl, ha, ra⟩ := bx.list sb
    obtain ⟨ns, e, h⟩ := h
    rw [intsOf_map e] at ra
    rw [ra.ints] at ha
    exact cr_sum hc pins s σ H _ us Q I r ⟨_, _, rfl, SqL.of ha, h _ _ (.same (Rp.int _))⟩
  · exact h.elim

def Mf.id : Mf → String
  | .join => "str.join"
  | .split => "str.split"
  | .index => "tuple.index"
  | .find => "str.find"
  | .count => "str.count"
  | .get => "dict.get"
  | .upper => "str.upper"
  | .values => "dict.values"
  | .items => "dict.items"
  | .keys => "dict.keys"

theorem mth_ok (m : Mf) : MtR X m.id (fun v vs H Q => ∃ S x xs, Sub S H ∧ BR S H v x ∧ BRs S H vs xs ∧ mthW m x xs fun r => ∀ v' H', Out S H r v' H' → Q v' H') := by
  intro pins s σ H v vs vv us Q I rv r h
  obtain ⟨S, x, xs, sb, bo, bs, h⟩ := h
  unfold mthW at h
  split at h
  · cases bo.str
    obtain ⟨w, rfl, bx⟩ := bs.one
    obtain ⟨a, ys, rfl, ha, ra⟩ := bx.list sb
    obtain ⟨zs, e, hz, h⟩ := h
    rw [strsOf_map e] at ra
    rw [ra.strs] at ha
    exact mt_join pins s σ H _ _ vv us Q I rv r ⟨_, _, _, rfl, rfl, .inl (SqL.of ha), hz, h _ _ (.same (Rp.str _))⟩
  · cases bo.str
    obtain ⟨w, rfl, bx⟩ := bs.one
    obtain ⟨a, ys, rfl, _, ha, ra⟩ := bx.tuple sb
    obtain ⟨zs, e, hz, h⟩ := h
    rw [strsOf_map e] at ra
    rw [ra.strs] at ha
    exact mt_join pins s σ H _ _ vv us Q I rv r ⟨_, _, _, rfl, rfl, .inr (SqT.of ha), hz, h _ _ (.same (Rp.str _))⟩
  · exact h.elim

def Mm.id : Mm → String
  | .append => "list.append"
  | .insert => "list.insert"
  | .pop => "list.pop"
  | .extend => "list.extend"
  | .remove => "list.remove"
  | .reverse => "list.reverse"
  | .clear => "list.clear"

/-- a method that changes the list at l: behind it stands ds' -/
theorem mut_ok (m : Mm) : MtR X m.id (fun v vs H Q => ∃ S l xs ds ys, v = V.ref l ∧ H l = some (.lst xs) ∧ RpAll S xs ds ∧ RpAll S vs ys ∧
    mutW m ds ys fun y ds' => ∀ u xs', Rp S u y → RpAll S xs' ds' → Q u (upd H l (.lst xs'))) := by
  intro pins s σ H v vs vv us Q I rv r h
  obtain ⟨S, l, xs, ds, ys, rfl, hl, rd, ry, h⟩ := h
  unfold mutW at h
  have hlen := rd.length
  split at h
  · cases ry with
    | cons r1 rr =>
      cases rr
      exact mt_append pins s σ H _ _ vv us Q I rv r ⟨_, _, _, rfl, rfl, hl, by rw [hlen]; exact h.1, h.2 _ _ .non (rd.append (.one r1))⟩
  · cases ry with
    | cons r1 rr =>
      cases rr with
      | cons r2 rr =>
        cases rr
        cases r1
        exact mt_insert pins s σ H _ _ vv us Q I rv r ⟨_, _, _, _, rfl, rfl, hl, by rw [hlen]; exact h.1.1, h.1.2.1, h.1.2.2, h.2 _ _ .non (((rd.take _).append (.one r2)).append (rd.drop _))⟩
  · cases ry
    obtain ⟨y, hy, q⟩ := h
    rw [← hlen] at hy
    obtain ⟨w, hw, rw'⟩ := rd.get hy
    exact mt_pop pins s σ H _ _ vv us Q I rv r ⟨_, _, _, rfl, rfl, hl, hw, q _ _ rw' rd.dropLast⟩
  · cases ry with
    | cons r1 rr =>
      cases rr
      cases r1
      obtain ⟨k, y, ⟨h1, h2, h3⟩, hy, q⟩ := h
      obtain ⟨w, hw, rw'⟩ := rd.get hy
      exact mt_popAt pins s σ H _ _ vv us Q I rv r ⟨_, _, _, k, _, rfl, rfl, hl, h1, h2, by rw [hlen]; exact h3, hw, q _ _ rw' (rd.eraseIdx _)⟩
  · cases ry
    exact mt_reverse pins s σ H _ _ vv us Q I rv r ⟨_, _, rfl, rfl, hl, h _ _ .non rd.reverse⟩
  · cases ry
    exact mt_clear pins s σ H _ _ vv us Q I rv r ⟨_, _, rfl, rfl, hl, h _ _ .non .nil⟩
  · exact h.elim
end
end PD
/-! PD3c: x[::-1] of lists and tuples. -/
namespace PD
open PySem L2 PySem.Spec PyProof.Rows
section
variable {prog : Program} {w : World} {A : Around} {Er : Value → Shared → Prop} {s : Shared}
theorem places_back (n : Nat) : Builtin.Slice.slicePlaces ((n : Int) - 1) (-1) (-1) = n := by
  unfold Builtin.Slice.slicePlaces
  have h1 : ¬ ((-1 : Int) > 0) := by decide
  simp only [h1, if_false]
  have e : (- -1 : Int) = 1 := by decide
  rw [e, Int.ediv_one]
  split <;> omega
theorem applied_back {sl : Addr} {n : Nat} {t : Tok} {Q : Int × Int × Nat → Shared → Prop} (hs : s.heap.IsSliceOf sl .none .none (.int (-1) t))
    (h : Q ((n : Int) - 1, -1, n) s) : wpAny (model prog w) A (Builtin.Slice.sliceApplied (.ref sl) (pure (n : Int))) Q Er s := by
  obtain ⟨os, hos, hcs, hds⟩ := hs
  unfold Builtin.Slice.sliceApplied
  unfold Builtin.Slice.sliceFields
  refine wpAny_bind (wpAny_bind (wpAny_field hos hds (x := Value.none) rfl (wpAny_bind (wpAny_field hos hds (x := Value.none) rfl
    (wpAny_bind (wpAny_field hos hds (x := Value.int (-1) t) rfl (wpAny_pure ?_)))))))
  refine wpAny_bind (slicePart_int ?_)
  show wpAny _ _ (if ((-1 : Int) == 0) = true then _ else _) _ _ s
  rw [if_neg (by decide)]
  refine wpAny_bind (slicePart_none (wpAny_bind (slicePart_none (wpAny_bind (wpAny_pure ?_)))))
  show wpAny _ _ (pure ((n : Int) - 1, (-1 : Int), Builtin.Slice.slicePlaces ((n : Int) - 1) (-1) (-1))) _ _ s
  rw [places_back]
  exact wpAny_pure h
theorem pick_back (xs : Array Value) : ((List.range xs.size).filterMap fun (k : Nat) => xs[((xs.size : Int) - 1 + (k : Int) * (-1)).toNat]?).toArray = xs.toList.reverse.toArray := by
  have e := PySem.W.krv_pick xs
  unfold slicePick at e
  rw [PySem.W.krv_bounds] at e
  have e2 : ((sliceRange ((xs.size : Int) - 1) (-1) (-1)).filterMap (xs[·]?)).toArray = xs.toList.reverse.toArray := e
  rw [PySem.W.krv_sliceRange, List.filterMap_map] at e2
  rw [← e2]
  have go : ∀ l : List Nat, (∀ k ∈ l, k < xs.size) → (l.filterMap fun (k : Nat) => xs[((xs.size : Int) - 1 + (k : Int) * (-1)).toNat]?) = l.filterMap ((fun x => xs[x]?) ∘ fun k => xs.size - 1 - k) := by
    intro l
    induction l with
    | nil => intro _; rfl
    | cons a l ih =>
      intro hl
      have ha := hl a List.mem_cons_self
      have ea : ((xs.size : Int) - 1 + (a : Int) * (-1)).toNat = xs.size - 1 - a := by omega
      rw [List.filterMap_cons, List.filterMap_cons, ih fun k hk => hl k (List.mem_cons_of_mem _ hk)]
      rw [ea]
      rfl
  rw [go _ fun k hk => List.mem_range.mp hk]
theorem getItem_tuple_back {t sl : Addr} {items : Array Value} {tk : Tok} {Q : Value → Shared → Prop} (ht : IsTup s.heap t items) (hs : s.heap.IsSliceOf sl .none .none (.int (-1) tk))
    (hsz : items.size ≤ sizeLine)
    (h : Q (.ref s.heap.objs.size) { s with heap := s.heap.push { cls := .type "tuple", data := .seq items.toList.reverse.toArray } }) :
    wpAny (model prog w) A (getItem (.ref t) (.ref sl)) Q Er s := by
  have hz : sizeOk (.seq items.toList.reverse.toArray) := by
    show items.toList.reverse.toArray.size ≤ sizeLine
    simpa using hsz
  obtain ⟨os, hos, hcs, hds⟩ := id hs
  have hT : s.TypeIs (.ref sl) "slice" := ⟨os, hos, hcs⟩
  unfold getItem
  try with_reducible refine wpAny_holding ?_
  first
    | refine wpAny_bind (wpAny_pure ?_)
    | skip
  refine wpAny_bind (wpAny_sequenceKey ht.typeIs (by decide) ?_)
  refine wpAny_bind (wpAny_callSpecial?_slot (name := Str.ofString "__getitem__") ht.typeIs
    PyProof.Rows.slot_tuple_getitem (wpAny_call_entry PyProof.Rows.slot_tuple_getitem ht.typeIs
      entry_tuple_getitem ?_ (args_tuple_getitem _ _)))
  show wpAny _ _ (Builtin.Tuple.tupleItemsOf (.ref t) >>= _) _ _ s
  refine wpAny_bind (tupleItemsOf_ ht ?_)
  refine wpAny_bind (wpAny_typeOf hT ?_)
  rw [if_pos (by decide)]
  refine wpAny_bind (applied_back hs ?_)
  show wpAny _ _ (if (((items.size : Int) - 1) == 0 && (-1 : Int) == 1 && items.size == items.size) = true then _ else _) _ _ s
  rw [if_neg (by rw [Bool.and_eq_true, Bool.and_eq_true]; rintro ⟨⟨_, q⟩, _⟩; exact absurd q (by decide)), pick_back]
  first
    | exact wpAny_bind (m := Builtin.Tuple.tupleExact _) (wpAny_newObj_type (wpAny_pure ⟨_, rfl, wpAny_pure h⟩) hz)
    | exact wpAny_bind (m := Builtin.Tuple.tupleExact _) (wpAny_newObj_type
        (wpAny_bind (wpAny_pure (wpAny_pure ⟨_, rfl, wpAny_pure h⟩))) hz)
    | exact wpAny_bind (wpAny_bind (m := Builtin.Tuple.tupleExact _) (wpAny_newObj_type
        (wpAny_pure (wpAny_pure ⟨_, rfl, wpAny_pure h⟩)) hz))
    | exact wpAny_bind (wpAny_bind (m := Builtin.Tuple.tupleExact _) (wpAny_newObj_type (wpAny_pure ⟨_, rfl, wpAny_pure h⟩) hz))
end

section
variable {X : Cx}
def tRev (te : TE) : TE := fun σ H Q => te σ H fun v H1 => ∃ S x, Sub S H1 ∧ BR S H1 v x ∧ revW x fun r => ∀ v' H', Out S H1 r v' H' → Q v' H'
theorem pe_rev {e : Expr} {te : TE} {k : Nat} {p1 p2 p3 pos : Pos} (he : PE X e te) :
    PE X (.Subscript e (.Slice none none (some (.UnaryOp .USub (.Constant (.int 1) k p1) p2)) p3) pos) (tRev te) := by
  refine ⟨fun pins s σ H Q I h => ?_⟩
  refine Subscript_ (thn (he.run pins s σ H _ I h) fun v s1 ⟨x, H1, I1, r1, q1⟩ => ?_)
  obtain ⟨S, d, sb, bd, q⟩ := q1
  refine wpAny_Slice ?_
  rw [evalPart_none]
  refine wpAny_pure (wpAny_pure ?_)
  have hst : PO X (some (.UnaryOp .USub (.Constant (.int 1) k p1) p2)) (tPart (tUn (rU fun i => .int (-i)) (tC (.int 1)))) := po_some (pe_un un_neg pe_int)
  refine thn (hst.run pins s1 σ H1 (fun o H4 => o = some (-1) ∧ H4 = H1) I1 ⟨1, rfl, -1, rfl, rfl, rfl⟩) ?_
  rintro vs s4 ⟨o, H4, I4, ps, eo, e4⟩
  subst eo e4
  cases ps with
  | int i t =>
    have I5 : Inv X pins σ H4 { s4 with heap := s4.heap.push { cls := .type "slice", data := .fields #[.none, .none, .int (-1) t] } } :=
      I4.kept (t' := s4.toks) fun b ob q => Heap.get?_push_of_some _ q
    unfold revW at q
    split at q
    · obtain ⟨a, xs, rfl, ha, ra⟩ := bd.list sb
      cases r1
      obtain ⟨its, r, ht, hz⟩ := I5.list (SqL.of ha)
      have hlen := r.length
      show wpAny (model X.prog X.w) X.A (subscriptTail e (.Slice none none (some (.UnaryOp .USub (.Constant (.int 1) k p1) p2)) p3) (.ref a) (.ref s4.heap.objs.size)) (EP X pins σ Q) X.xe
        { s4 with heap := s4.heap.push { cls := .type "slice", data := .fields #[.none, .none, .int (-1) t] } }
      refine tail_any (ops := [.ref a, .ref s4.heap.objs.size]) ht.isList.typeIs (PySem.slot_list_getitem.lookup) ?_ (by with_unfolding_all rfl)
      refine wpAny_getItem_list_slice ht.isList (Heap.IsSliceOf.new _ _ _ _) .none .none (.int _ _) (by decide) ?_ (by rw [List.size_toArray]; omega)
      rw [PySem.W.krv_pick]
      have hf := I5.hok.fresh (Nat.le_refl _)
      refine ⟨.ref _, _, I5.laid (t' := s4.toks) (o := .lst xs.reverse) (fun b ob q => Heap.get?_push_of_some _ q) (Nat.le_refl _) ?_, rfl, q _ _ (.lst hf ra.reverse)⟩
      exact ⟨by rw [List.length_reverse]; exact hz, _, 0, r.reverse, Heap.get?_push_size _ rfl⟩
    · obtain ⟨a, xs, rfl, _, ha, ra⟩ := bd.tuple sb
      cases r1
      obtain ⟨its, r, ht, hz⟩ := I5.tuple (SqT.of ha)
      have hlen := r.length
      show wpAny (model X.prog X.w) X.A (subscriptTail e (.Slice none none (some (.UnaryOp .USub (.Constant (.int 1) k p1) p2)) p3) (.ref a) (.ref s4.heap.objs.size)) (EP X pins σ Q) X.xe
        { s4 with heap := s4.heap.push { cls := .type "slice", data := .fields #[.none, .none, .int (-1) t] } }
      refine tail_any (ops := [.ref a, .ref s4.heap.objs.size]) ht.typeIs (PyProof.Rows.slot_tuple_getitem.lookup) ?_ (by with_unfolding_all rfl)
      refine getItem_tuple_back ht (Heap.IsSliceOf.new _ _ _ _) (by rw [List.size_toArray]; omega) ?_
      have hf := I5.hok.fresh (Nat.le_refl _)
      refine ⟨.ref _, _, I5.laid (t' := s4.toks) (o := .tup xs.reverse) (fun b ob q => Heap.get?_push_of_some _ q) (Nat.le_refl _) ?_, rfl, q _ _ (.tup hf ra.reverse)⟩
      exact ⟨by rw [List.length_reverse]; exact hz, its.reverse, r.reverse, ⟨_, Heap.get?_push_size _ rfl, rfl, _, rfl⟩⟩
    · exact q.elim
end
end PD
/-! PD4: contracts of defs; states that go on. -/
namespace PD
open PySem L2 PySem.Spec PyProof.Rows

/-! ### a def's contract, where no repr is under way -/
structure FnG (P : Program) (w : World) (K : PySem.W.Frag) (mg : Str → Option Value) (base : Heap) (k : Nat) (f : Addr) (fd : FuncData) (ps : List Str) (sp : Sp) : Prop where
  len : ∀ vs H Q E, sp vs H Q E → vs.length = ps.length
  run : ∀ (A : Around) (outer : List Env) (s : Shared) (H : Hp) (args : Args) (us : List Value) (vs : List V) (Q : VK) (E : XK),
    Room k A → A.guards = some [] → Env0 P w K mg base A outer s H → BindsTo s fd args (ps.zip us) → Vals vs us → sp vs H Q E →
    codeAny (model P w) A (.call (.ref f) args) (CR (L2.CX P w) outer P w H s Q E) s

/-- what a def hands back -/
def RetRep {W : Wd} (M : Addr → Bool) (g' : W.T) (H H' : Hp) (v : V) : Rs → Prop
  | .v x => RepSV (seen M g' H') v x
  | .f x => ∃ a xs ds, v = V.ref a ∧ x = .list ds ∧ H a = none ∧ W.Foot g' a = false ∧ H' a = some (.lst xs) ∧ RpAll (seen (onb M a) g' H') xs ds
/-- an exception of a class of the text -/
def ExRep (mg : Str → Option Value) (S : Hp) (c : Value) (d : Option Addr) (x : Exn) : Prop :=
  mg x.cls = some c ∧ ∃ dd fs, d = some dd ∧ S dd = some (.xd fs) ∧ fs.map (·.1) = x.fs.map (·.1) ∧ RepAll S (fs.map (·.2)) (x.fs.map (·.2))
/-- the promise of a def by its contract -/
def spOf {W : Wd} (mg : Str → Option Value) (n : Nat) (F : Fn W) : Sp := fun vs H Q E => ∃ (M : Addr → Bool) (g : W.T) (xs : List SV),
  vs.length = n ∧ (∀ a, M a = true → H a ≠ none ∧ W.Foot g a = false) ∧ W.R g H ∧ RepAll (seen M g H) vs xs ∧
  F xs g (fun r g' => ∀ v H', Grow g H g' H' → W.R g' H' → RetRep M g' H H' v r → Q v H')
    (fun x g' => ∀ c d H', Grow g H g' H' → W.R g' H' → ExRep mg (seen M g' H') c d x → E c d H')

/-- a def that stands as its contract says -/
def RealAt {W : Wd} (X : Cx) (x : Str) (F : Fn W) : Prop :=
  Mono F ∧ ∃ (k : Nat) (f : Addr) (fd : FuncData) (ps : List Str), (∀ (xs : List SV) (g : W.T) (R : Rs → W.T → Prop) (Ex : Exn → W.T → Prop), F xs g R Ex → xs.length = ps.length) ∧ FnG X.prog X.w X.K X.mg X.base k f fd ps (spOf X.mg ps.length F) ∧ Room k X.A ∧ X.mg x = some (.ref f) ∧
    PySem.W.keepIn X.K (.ref f) = true ∧ Binds X.K fd ps []

section
variable {W : Wd} {F : Frm W} {st st' : SS W} {M M' : Addr → Bool} {σ : L2.St} {H H' : Hp}

/-! ### states that go on -/
theorem Rel.grow (r : Rel F st M σ H) {g' : W.T} (a : Grow st.g H g' H') (R : W.R g' H') : Rel F ⟨st.sl, g'⟩ M σ H' := by
  refine ⟨r.len, R, r.gr.trans a, fun b hb => ?_, r.m0, r.m0d, fun i x e => ?_, r.dis⟩
  · obtain ⟨h1, h2⟩ := r.mdom b hb
    cases q : H b with
    | none => exact absurd q h1
    | some o =>
      obtain ⟨h3, h4⟩ := a.keep b o q h2
      exact ⟨by rw [h3]; simp, h4⟩
  · have q := r.sl i x e
    cases x with
    | un => exact True.intro
    | val x =>
      obtain ⟨v, h1, h2⟩ := q
      exact ⟨v, h1, h2.sub (a.seen M)⟩
    | own x =>
      obtain ⟨b, h1, h2⟩ := q
      refine ⟨b, h1, h2.m, h2.new, ?_⟩
      obtain ⟨xs, ds, e1, e2, e3⟩ := h2.rep
      exact ⟨xs, ds, e1, (a.keep b _ e2 (r.mdom b h2.m).2).1, e3.sub (a.seen M)⟩
theorem Rel.ext (r : Rel F st M σ H) (s : Sub H H') : Rel F st M σ H' := r.grow (g' := st.g) (Grow.sub s) (R_sub r.R s)
theorem Adv.grow (r : Rel F st M σ H) {g' : W.T} (a : Grow st.g H g' H') : Adv σ st M H ⟨st.sl, g'⟩ M H' := by
  refine ⟨a.seen M, fun b hb _ => ⟨hb, ?_⟩, fun _ y h => ⟨y, h⟩, a.alive, rfl⟩
  obtain ⟨h1, h2⟩ := r.mdom b hb
  cases q : H b with
  | none => exact absurd q h1
  | some o => exact (a.keep b o q h2).1
theorem Adv.ext (r : Rel F st M σ H) (s : Sub H H') : Adv σ st M H st M H' := Adv.grow r (g' := st.g) (Grow.sub s)
/-- a new object that is held at once -/
theorem Rel.on (r : Rel F st M σ H) {p : Addr} {o : HO} (hp : H p = none) : Rel F st (onb M p) σ (upd H p o) := by
  have r1 := r.ext (Sub.new (o := o) hp)
  refine ⟨r1.len, r1.R, r1.gr, fun b hb => ?_, fun a h => onb_of (r.m0 a h), r.m0d, fun i x e => ?_, r.dis⟩
  · by_cases q : b = p
    · subst q
      exact ⟨by rw [upd_same]; simp, foot_new r.R hp⟩
    · rw [onb_ne q] at hb
      exact r1.mdom b hb
  · have q := r.sl i x e
    cases x with
    | un => exact True.intro
    | val x =>
      obtain ⟨v, h1, h2⟩ := q
      exact ⟨v, h1, h2.sub (seen_on hp)⟩
    | own x =>
      obtain ⟨b, h1, h2⟩ := q
      refine ⟨b, h1, onb_of h2.m, h2.new, ?_⟩
      obtain ⟨xs, ds, e1, e2, e3⟩ := h2.rep
      exact ⟨xs, ds, e1, Sub.new hp _ _ e2, e3.sub (seen_on hp)⟩
theorem Adv.on (r : Rel F st M σ H) {p : Addr} {o : HO} (hp : H p = none) : Adv σ st M H st (onb M p) (upd H p o) := by
  refine ⟨seen_on hp, fun a h _ => ⟨onb_of h, upd_ne fun e => ?_⟩, fun _ y h => ⟨y, h⟩, (Grow.sub (W := W) (g := st.g) (Sub.new hp)).alive, rfl⟩
  subst e
  exact (r.mdom _ h).1 hp
theorem Rel.free_new (r : Rel F st M σ H) {p : Addr} (hp : H p = none) : Free st σ p := fun i y e q => by
  obtain ⟨a, h1, h2⟩ := r.sl i _ e
  rw [h1] at q
  cases q
  obtain ⟨xs, ds, _, e2, _⟩ := h2.rep
  rw [hp] at e2
  cases e2
theorem Rel.new0 (r : Rel F st M σ H) {p : Addr} (hp : H p = none) : F.H0 p = none := by
  cases q : F.H0 p with
  | none => rfl
  | some o => exact absurd hp (r.gr.alive p (by rw [q]; simp))
theorem Rel.M_new (r : Rel F st M σ H) {p : Addr} (hp : H p = none) : M p = false := by
  cases q : M p with
  | false => rfl
  | true => exact absurd hp (r.mdom p q).1

/-- an object that came with a call is held from now on: nothing that was described leans on it -/
theorem Rel.hold {g' : W.T} {H0 : Hp} {a : Addr} {o : HO} (r0 : Rel F st M σ H0) (gr : Grow st.g H0 g' H) (r : Rel F ⟨st.sl, g'⟩ M σ H) (hn : H0 a = none) (e : H a = some o) (hf : W.Foot g' a = false) : Rel F ⟨st.sl, g'⟩ (onb M a) σ H := by
  have sub : Sub (seen M st.g H0) (seen (onb M a) g' H) := fun b u z => by
    obtain ⟨z1, z2, z3⟩ := seen_some.mp z
    have : b ≠ a := fun w => by
      subst w
      rw [hn] at z3
      cases z3
    obtain ⟨k1, k2⟩ := gr.keep b u z3 z2
    exact seen_at (by rw [onb_ne this]; exact z1) k2 k1
  refine ⟨r.len, r.R, r.gr, fun b hb => ?_, fun b h => onb_of (r.m0 b h), r.m0d, fun i x z => ?_, r.dis⟩
  · by_cases q : b = a
    · subst q
      exact ⟨by rw [e]; simp, hf⟩
    · rw [onb_ne q] at hb
      exact r.mdom b hb
  · have q := r0.sl i x z
    cases x with
    | un => exact True.intro
    | val x =>
      obtain ⟨v, h1, h2⟩ := q
      exact ⟨v, h1, h2.sub sub⟩
    | own x =>
      obtain ⟨b, h1, h2⟩ := q
      refine ⟨b, h1, onb_of h2.m, h2.new, ?_⟩
      obtain ⟨xs, ds, e1, e2, e3⟩ := h2.rep
      exact ⟨xs, ds, e1, (gr.keep b _ e2 (r0.mdom b h2.m).2).1, e3.sub sub⟩
/-- a held object that is no slot's is let go -/
theorem Rel.off (r : Rel F st M σ H) {a : Addr} (hn : F.H0 a = none) (hf : Free st σ a) : Rel F st (offb M a) σ H := by
  have mono : Sub (seen M st.g H) (seen (offb M a) st.g H) := seen_mono fun b h => offb_le h
  refine ⟨r.len, r.R, r.gr, fun b hb => r.mdom b (offb_le hb), fun b h => ?_, r.m0d, fun i x e => ?_, r.dis⟩
  · have q : b ≠ a := fun q => by
      subst q
      exact (r.m0d b h).1 hn
    rw [offb_ne q]
    exact r.m0 b h
  · have q := r.sl i x e
    cases x with
    | un => exact True.intro
    | val x =>
      obtain ⟨v, h1, h2⟩ := q
      exact ⟨v, h1, h2.sub mono⟩
    | own x =>
      obtain ⟨b, h1, h2⟩ := q
      have q : b ≠ a := fun q => by
        subst q
        exact hf i x e h1
      refine ⟨b, h1, by rw [offb_ne q]; exact h2.m, h2.new, ?_⟩
      obtain ⟨xs, ds, e1, e2, e3⟩ := h2.rep
      exact ⟨xs, ds, e1, e2, e3.sub mono⟩

/-! ### what an expression's reading says behind it -/
def EPost (F : Frm W) (σ : L2.St) (st : SS W) (M : Addr → Bool) (H : Hp) (Q : Rs → SS W → Prop) : VK := fun v H' =>
  ∃ r st' M', Adv σ st M H st' M' H' ∧ Rel F st' M' σ H' ∧ RepRs F H st' M' σ H' v r ∧ Q r st'
/-- the same, the value being let go -/
def VPost (F : Frm W) (σ : L2.St) (st : SS W) (M : Addr → Bool) (H : Hp) (Q : SV → SS W → Prop) : VK := fun v H' =>
  ∃ x st' M', Adv σ st M H st' M' H' ∧ Rel F st' M' σ H' ∧ RepSV (seen M' st'.g H') v x ∧ Q x st'
theorem EPost.let_go {Q : Rs → SS W → Prop} {Q' : SV → SS W → Prop} {v : V} (h : EPost F σ st M H Q v H') (r0 : Rel F st M σ H) (hq : ∀ r st', Q r st' → Q' r.sv st') : VPost F σ st M H Q' v H' := by
  obtain ⟨r, st', M', ad, re, rp, q⟩ := h
  cases r with
  | v x => exact ⟨x, st', M', ad, re, rp, hq _ _ q⟩
  | f x =>
    obtain ⟨a, rfl, hs, ow, fr⟩ := rp
    obtain ⟨xs, ds, rfl, e2, e3⟩ := ow.rep
    have mono : Sub (seen M' st'.g H') (seen (offb M' a) st'.g H') := seen_mono fun b h => offb_le h
    refine ⟨.d (.list ds), st', offb M' a, ?_, re.off ow.new fr, Rp.lst (seen_at offb_self (re.mdom a ow.m).2 e2) (e3.sub mono), hq _ _ q⟩
    refine ⟨ad.sub.trans mono, fun b h f => ?_, ad.own, ad.alive, ad.len⟩
    obtain ⟨h1, h2⟩ := ad.fix b h f
    have q : b ≠ a := fun q => by
      subst q
      exact (r0.mdom b h).1 hs
    exact ⟨by rw [offb_ne q]; exact h1, h2⟩
theorem EPost.mono {Q Q' : Rs → SS W → Prop} {v : V} (h : EPost F σ st M H Q v H') (hq : ∀ r st', Q r st' → Q' r st') : EPost F σ st M H Q' v H' := by
  obtain ⟨r, st', M', ad, re, rp, q⟩ := h
  exact ⟨r, st', M', ad, re, rp, hq _ _ q⟩
theorem RepRs.back {Hs Hs' : Hp} (h : ∀ b, Hs b ≠ none → Hs' b ≠ none) {v : V} : ∀ {r : Rs}, RepRs F Hs' st M σ H v r → RepRs F Hs st M σ H v r
  | .v _, q => q
  | .f _, ⟨a, e, hn, o⟩ => ⟨a, e, by
      cases q : Hs a with
      | none => rfl
      | some u => exact absurd hn (h a (by rw [q]; simp)), o⟩
/-- a step, then another one -/
theorem EPost.trans {st1 : SS W} {M1 : Addr → Bool} {H1 : Hp} {Q : Rs → SS W → Prop} {v : V} (a : Adv σ st M H st1 M1 H1) (h : EPost F σ st1 M1 H1 Q v H') : EPost F σ st M H Q v H' := by
  obtain ⟨r, st', M', ad, re, rp, q⟩ := h
  exact ⟨r, st', M', a.trans ad, re, rp.back a.alive, q⟩
/-- an operation's answer -/
theorem Out.post (re : Rel F st M σ H) {r : Rs} {v : V} (o : Out (seen M st.g H) H r v H') {Q : Rs → SS W → Prop} (q : Q r st) : EPost F σ st M H Q v H' := by
  cases o with
  | @same x _ h => exact ⟨.v x, st, M, Adv.refl _ _ _ _, re, h, q⟩
  | @tup p xs ds hp h =>
    have s : Sub H (upd H p (.tup xs)) := Sub.new hp
    refine ⟨.v (.d (.tuple ds)), st, M, Adv.ext re s, re.ext s, ?_, q⟩
    exact Rp.tup (seen_at (re.M_new hp) (foot_new re.R hp) upd_same) (h.sub ((Grow.sub (g := st.g) s).seen M))
  | @lst p xs ds hp h =>
    exact ⟨.f (.list ds), st, onb M p, Adv.on re hp, re.on hp, ⟨p, rfl, hp, ⟨onb_self, re.new0 hp, xs, ds, rfl, upd_same, h.sub (seen_on hp)⟩, re.free_new hp⟩, q⟩

/-! ### slots that are let go -/
theorem frz_len (st : SS W) (i : Nat) : (st.frz i).sl.length = st.sl.length := by
  unfold SS.frz
  split
  · simp
  · rfl
theorem frz_g (st : SS W) (i : Nat) : (st.frz i).g = st.g := by
  unfold SS.frz
  split <;> rfl
theorem frzs_g : ∀ (is : List Nat) (st : SS W), (st.frzs is).g = st.g
  | [], _ => rfl
  | i :: is, st => (frzs_g is (st.frz i)).trans (frz_g st i)
theorem frz_get (st : SS W) (i j : Nat) : (st.frz i).get j = st.get j := by
  unfold SS.frz
  split
  · rename_i x e
    unfold SS.get
    by_cases q : i = j
    · subst q
      have hl : i < st.sl.length := (List.getElem?_eq_some_iff.mp e).1
      rw [List.getElem?_set_self hl, e]
      rfl
    · rw [List.getElem?_set_ne q]
  · rfl
theorem Rel.frz (re : Rel F st M σ H) (i : Nat) : ∃ M', Adv σ st M H (st.frz i) M' H ∧ Rel F (st.frz i) M' σ H := by
  unfold SS.frz
  split
  · rename_i x e
    obtain ⟨a, e1, ow⟩ := re.sl i _ e
    obtain ⟨xs, ds, rfl, e2, e3⟩ := ow.rep
    have mono : Sub (seen M st.g H) (seen (offb M a) st.g H) := seen_mono fun b h => offb_le h
    have hl : i < st.sl.length := (List.getElem?_eq_some_iff.mp e).1
    have other : ∀ (j : Nat) (y : D), (st.sl.set i (.val (.d (.list ds))))[j]? = some (Sl.own y) → j ≠ i ∧ st.sl[j]? = some (Sl.own y) := fun j y h => by
      by_cases q : i = j
      · subst q
        rw [List.getElem?_set_self hl] at h
        cases h
      · rw [List.getElem?_set_ne q] at h
        exact ⟨fun z => q z.symm, h⟩
    refine ⟨offb M a, ⟨mono, fun b h f => ⟨?_, rfl⟩, fun j y h => ⟨y, (other j y h).2⟩, fun _ h => h, by simp⟩, ?_⟩
    · have q : b ≠ a := fun q => by
        subst q
        exact f i _ e e1
      rw [offb_ne q]
      exact h
    · refine ⟨by simpa using re.len, re.R, re.gr, fun b hb => re.mdom b (offb_le hb), fun b h => ?_, re.m0d, fun j y h => ?_, fun j k y z b h1 h2 h3 h4 => re.dis j k y z b (other j y h1).2 (other k z h2).2 h3 h4⟩
      · have q : b ≠ a := fun q => by
          subst q
          exact (re.m0d b h).1 ow.new
        rw [offb_ne q]
        exact re.m0 b h
      · have h : (st.sl.set i (.val (.d (.list ds))))[j]? = some y := h
        by_cases q : i = j
        · subst q
          rw [List.getElem?_set_self hl] at h
          cases h
          exact ⟨_, e1, Rp.lst (seen_at offb_self (re.mdom a ow.m).2 e2) (e3.sub mono)⟩
        · have h' := h
          rw [List.getElem?_set_ne q] at h'
          have z := re.sl j y h'
          cases y with
          | un => exact True.intro
          | val y =>
            obtain ⟨v, z1, z2⟩ := z
            exact ⟨v, z1, z2.sub mono⟩
          | own y =>
            obtain ⟨b, z1, z2⟩ := z
            have q2 : b ≠ a := fun q2 => by
              subst q2
              exact q (re.dis i j _ _ b e h' e1 z1)
            refine ⟨b, z1, by rw [offb_ne q2]; exact z2.m, z2.new, ?_⟩
            obtain ⟨ys, es, y1, y2, y3⟩ := z2.rep
            exact ⟨ys, es, y1, y2, y3.sub mono⟩
  · exact ⟨M, Adv.refl _ _ _ _, re⟩
theorem Rel.frzs : ∀ (is : List Nat) {st : SS W} {M : Addr → Bool}, Rel F st M σ H → ∃ M', Adv σ st M H (st.frzs is) M' H ∧ Rel F (st.frzs is) M' σ H
  | [], st, M, re => ⟨M, Adv.refl _ _ _ _, re⟩
  | i :: is, st, M, re => by
    obtain ⟨M1, a1, r1⟩ := re.frz i
    obtain ⟨M2, a2, r2⟩ := Rel.frzs is r1
    exact ⟨M2, a1.trans a2, r2⟩

/-! ### operands -/
def OpRep (σ : L2.St) (S : Hp) (v : V) : Op → Prop
  | .slot i => σ[i]? = some (some v)
  | .now x => RepSV S v x
theorem OpRep.sub {S S' : Hp} (s : Sub S S') {v : V} : ∀ {o : Op}, OpRep σ S v o → OpRep σ S' v o
  | .slot _, h => h
  | .now _, h => RepSV.sub s h
theorem OpRep.br (re : Rel F st M σ H) {v : V} {x : SV} : ∀ {o : Op}, OpRep σ (seen M st.g H) v o → o.get st = some x → BR (seen M st.g H) H v x
  | .now _, h, e => by
    cases e
    exact BR.of h
  | .slot i, h, e => by
    have h : σ[i]? = some (some v) := h
    have e : st.get i = some x := e
    unfold SS.get at e
    cases q : st.sl[i]? with
    | none => rw [q] at e; cases e
    | some y =>
      rw [q] at e
      have z := re.sl i y q
      cases y with
      | un => cases e
      | val y =>
        cases e
        obtain ⟨u, z1, z2⟩ := z
        rw [h] at z1
        cases z1
        exact BR.of z2
      | own y =>
        cases e
        obtain ⟨a, z1, z2⟩ := z
        rw [h] at z1
        cases z1
        obtain ⟨xs, ds, rfl, y2, y3⟩ := z2.rep
        exact .inr ⟨a, xs, ds, rfl, rfl, y2, y3⟩
/-- .. where it is let go -/
theorem OpRep.rep (re : Rel F (st.frz i) M' σ H) {v : V} {x : SV} (h : σ[i]? = some (some v)) (e : st.get i = some x) : RepSV (seen M' (st.frz i).g H) v x := by
  rw [← frz_get st i i] at e
  unfold SS.get at e
  cases q : (st.frz i).sl[i]? with
  | none => rw [q] at e; cases e
  | some y =>
    rw [q] at e
    have z := re.sl i y q
    cases y with
    | un => cases e
    | val y =>
      cases e
      obtain ⟨u, z1, z2⟩ := z
      rw [h] at z1
      cases z1
      exact z2
    | own y =>
      exfalso
      unfold SS.frz at q
      split at q
      · rename_i w e'
        have hl : i < st.sl.length := (List.getElem?_eq_some_iff.mp e').1
        have q : (st.sl.set i (.val (.d w)))[i]? = some (Sl.own y) := q
        rw [List.getElem?_set_self hl] at q
        cases q
      · rename_i n
        exact n _ q
def OPost (F : Frm W) (σ : L2.St) (st : SS W) (M : Addr → Bool) (H : Hp) (Q : Op → SS W → Prop) : VK := fun v H' =>
  ∃ o st' M', Adv σ st M H st' M' H' ∧ Rel F st' M' σ H' ∧ OpRep σ (seen M' st'.g H') v o ∧ Q o st'
inductive OpsRep (σ : L2.St) (S : Hp) : List V → List Op → Prop
  | nil : OpsRep σ S [] []
  | cons {v : V} {vs : List V} {o : Op} {os : List Op} : OpRep σ S v o → OpsRep σ S vs os → OpsRep σ S (v :: vs) (o :: os)
theorem OpsRep.sub {S S' : Hp} (s : Sub S S') : ∀ {vs : List V} {os : List Op}, OpsRep σ S vs os → OpsRep σ S' vs os
  | _, _, .nil => .nil
  | _, _, .cons h t => .cons (h.sub s) (OpsRep.sub s t)
theorem OpsRep.brs (re : Rel F st M σ H) : ∀ {vs : List V} {os : List Op} {xs : List SV}, OpsRep σ (seen M st.g H) vs os → opsGet st os = some xs → BRs (seen M st.g H) H vs xs
  | _, _, _, .nil, e => by
    cases e
    exact .nil
  | _, _, _, .cons (o := o) (os := os) h t, e => by
    unfold opsGet at e
    cases q1 : o.get st with
    | none => rw [q1] at e; cases e
    | some x =>
      cases q2 : opsGet st os with
      | none => rw [q1, q2] at e; cases e
      | some xs =>
        rw [q1, q2] at e
        cases e
        exact .cons (h.br re q1) (OpsRep.brs re t q2)
end
end PD
/-! PD5: from the text to the small language. -/
namespace PD
open PySem L2 PySem.Spec PyProof.Rows

def ixOf : List Str → Str → Option Nat
  | [], _ => none
  | y :: r, x => if y = x then some 0 else (ixOf r x).map (· + 1)
theorem ixOf_get : ∀ {l : List Str} {x : Str} {i : Nat}, ixOf l x = some i → l[i]? = some x
  | y :: r, x, i, h => by
    unfold ixOf at h
    split at h
    · rename_i e
      cases h
      subst e
      rfl
    · cases q : ixOf r x with
      | none => rw [q] at h; cases h
      | some j =>
        rw [q] at h
        cases h
        exact ixOf_get (l := r) q
def visC (sc : Scope) (x : Str) : Bool := match sc.names.lookup x with
  | some .local => true
  | some .cell => true
  | some .free => true
  | _ => false
theorem visC_vis {sc : Scope} {x : Str} (h : visC sc x = true) : Vis sc x := by
  unfold visC at h
  split at h
  · rename_i e; exact .inl e
  · rename_i e; exact .inr (.inl e)
  · rename_i e; exact .inr (.inr e)
  · cases h
def glC (sc : Scope) (x : Str) : Bool := match sc.names.lookup x with
  | some .globalImplicit => true
  | _ => false
theorem glC_gl {sc : Scope} {x : Str} (h : glC sc x = true) : sc.names.lookup x = some .globalImplicit := by
  unfold glC at h
  split at h
  · rename_i e; exact e
  · cases h
/-- names that a block stores: its own -/
def stoC (sc : Scope) (x : Str) : Bool := match sc.names.lookup x with
  | some .local => true
  | some .cell => true
  | _ => false
def notStar : Expr → Bool
  | .Starred .. => false
  | _ => true
def notSet : Expr → Bool
  | .Set .. => false
  | _ => true
def notSlice : Expr → Bool
  | .Slice .. => false
  | _ => true
def notCall : Expr → Bool
  | .Call .. => false
  | _ => true
/-- a test of a plain form -/
def plainT : Expr → Bool
  | .UnaryOp .. => false
  | .BoolOp .. => false
  | .IfExp .. => false
  | .Compare .. => false
  | _ => true

def bopOf : Operator → Option Bop
  | .Add => some .add
  | .Sub => some .sub
  | .Mult => some .mul
  | .FloorDiv => some .fdiv
  | .Mod => some .mod
  | .Pow => some .pow
  | _ => none
theorem bopOf_op {o : Operator} {b : Bop} (h : bopOf o = some b) : o = b.op := by
  cases o <;> first
    | (cases h; rfl)
    | cases h
def copOf : CmpOp → Cop
  | .Eq => .eq
  | .NotEq => .ne
  | .Lt => .lt
  | .LtE => .le
  | .Gt => .gt
  | .GtE => .ge
  | .Is => .isn
  | .IsNot => .nisn
  | .In => .inn
  | .NotIn => .nin
theorem copOf_op (o : CmpOp) : (copOf o).op = o := by cases o <;> rfl
def bfTab : List (Str × Bf) := [("len", .len), ("list", .list), ("tuple", .tuple), ("int", .int), ("abs", .abs), ("repr", .repr), ("str", .str), ("min", .min), ("max", .max), ("sum", .sum)]
def bfOf (x : Str) : Option Bf := bfTab.lookup x
def bNames : List Str := ["len", "list", "tuple", "int", "abs", "repr", "str", "min", "max", "sum", "sorted", "all", "any", "isinstance", "range", "bool", "enumerate", "zip", "dict", "set"]
def mmTab : List (Str × Mm) := [("append", .append), ("insert", .insert), ("pop", .pop), ("reverse", .reverse), ("clear", .clear)]
def mfTab : List (Str × Mf) := [("join", .join)]
def cstD : Const → Option D
  | .none => some .none
  | .bool b => some (.bool b)
  | .int i => some (.int i)
  | .str s => some (.str s)
  | _ => none

def cEs (f : Expr → Option E) : List Expr → Option Es
  | [] => some .nil
  | e :: r => if notStar e = true then match f e, cEs f r with
    | some a, some b => some (.cons a b)
    | _, _ => none else none
def cBool (f : Expr → Option E) (k : E → E → E) : List Expr → Option E
  | [] => none
  | [e] => f e
  | e :: r => match f e, cBool f k r with
    | some a, some b => some (k a b)
    | _, _ => none
def cEo (f : Expr → Option E) : Option Expr → Option Eo
  | none => some .none
  | some e => match f e with
    | some a => some (.some a)
    | none => none
def ownOf (N : List Str) (sc : Scope) : List (Str × Nat) := sc.names.filterMap fun y => if stoC sc y.1 = true then (ixOf N y.1).map fun i => (y.1, i) else none
mutual
def cTg (N : List Str) (sto : Str → Bool) : Nat → Expr → Option Tg
  | 0, _ => none
  | n + 1, e => match e with
    | .Name x _ => if sto x = true then (ixOf N x).map .nm else none
    | .Tuple es _ _ => (cTgs N sto n es).map .tup
    | _ => none
def cTgs (N : List Str) (sto : Str → Bool) : Nat → List Expr → Option Tgs
  | 0, _ => none
  | n + 1, es => match es with
    | [] => some .nil
    | e :: r => match cTg N sto n e, cTgs N sto n r with
      | some t, some ts => some (.cons t ts)
      | _, _ => none
end
def noStarT : List Expr → Bool
  | [] => true
  | e :: r => notStar e && noStarT r

/-- the text's tables: constants of the module, defs -/
structure Env_ where
  N : List Str
  cs : Str → Option D
  fs : Str → Bool
def cIt (sc : Scope) (f : Expr → Option E) (e : Expr) : Option Itr :=
  match e with
  | .Call (.Name x _) args [] _ => if x = "range" ∧ glC sc x = true then match args with
      | [a] => if notStar a = true then (f a).map .rng1 else none
      | [a, b] => if notStar a = true ∧ notStar b = true then match f a, f b with
        | some a, some b => some (.rng2 a b)
        | _, _ => none else none
      | [a, b, c] => if notStar a = true ∧ notStar b = true ∧ notStar c = true then match f a, f b, f c with
        | some a, some b, some c => some (.rng3 a b c)
        | _, _, _ => none else none
      | _ => none
    else if x = "enumerate" ∨ x = "zip" then none else (f e).map .seq
  | _ => if notSet e = true then (f e).map .seq else none
def minusOne : Expr → Bool
  | .UnaryOp .USub (.Constant (.int i) _ _) _ => i == 1
  | _ => false
/-- tests of forms that are served -/
def tOk : Nat → Expr → Bool
  | 0, _ => false
  | n + 1, e => match e with
    | .UnaryOp .Not x _ => tOk n x
    | .UnaryOp .. => false
    | .BoolOp _ es _ => es.all (tOk n)
    | .IfExp .. => false
    | _ => true
def cE (T : Env_) : Nat → Scope → Expr → Option E
  | 0, _, _ => none
  | n + 1, sc, e => match e with
    | .Name x _ => if (x == ("__debug__" : Str)) = false ∧ (x == ("__classdict__" : Str)) = false then
        (if visC sc x = true then (ixOf T.N x).map .var else if glC sc x = true then (T.cs x).map .cst else none) else none
    | .Constant c _ _ => (cstD c).map .cst
    | .Tuple es _ _ => (cEs (cE T n sc) es).map .tup
    | .List es _ => (cEs (cE T n sc) es).map .lst
    | .BinOp a op b _ => match bopOf op, cE T n sc a, cE T n sc b with
      | some o, some a, some b => some (.bin o a b)
      | _, _, _ => none
    | .UnaryOp .USub a _ => (cE T n sc a).map .neg
    | .UnaryOp .Not a _ => (cE T n sc a).map .not
    | .Compare a [op] [b] _ => if notSet b = true then match cE T n sc a, cE T n sc b with
      | some a, some b => some (.cmp (copOf op) a b)
      | _, _ => none else none
    | .Compare a [op, op'] [b, c] _ => if notSet c = true then match cE T n sc a, cE T n sc b, cE T n sc c with
      | some a, some b, some c => some (.chain (copOf op) (copOf op') a b c)
      | _, _, _ => none else none
    | .BoolOp .And (a :: b :: es) _ => cBool (cE T n sc) .and (a :: b :: es)
    | .BoolOp .Or (a :: b :: es) _ => cBool (cE T n sc) .or (a :: b :: es)
    | .IfExp c a b _ => if tOk n c = true then match cE T n sc c, cE T n sc a, cE T n sc b with
      | some c, some a, some b => some (.ife c a b)
      | _, _, _ => none else none
    | .Subscript a (.Slice lo hi none _) _ => match cE T n sc a, cEo (cE T n sc) lo, cEo (cE T n sc) hi with
      | some a, some lo, some hi => some (.cut a lo hi)
      | _, _, _ => none
    | .Subscript a (.Slice none none (some (.UnaryOp .USub (.Constant (.int 1) _ _) _)) _) _ => (cE T n sc a).map .rev
    | .Subscript a b _ => if notSlice b = true then match cE T n sc a, cE T n sc b with
      | some a, some b => some (.idx a b)
      | _, _ => none else none
    | .Call (.Name x _) es [] _ => if glC sc x = true ∧ (x == ("__debug__" : Str)) = false then
        (if T.fs x = true then (cEs (cE T n sc) es).map (.call x) else match bfOf x, es with
          | some f, _ :: _ => (cEs (cE T n sc) es).map (.blt f)
          | _, _ => none) else none
    | .Call (.Attribute o m ap) es [] p => if notCall o = true ∧ (ap.endLine == p.line) = true ∧ es.length < 20 then
        match mmTab.lookup m, o with
        | some mm, .Name x _ => if (x == ("__debug__" : Str)) = false ∧ (x == ("__classdict__" : Str)) = false ∧ visC sc x = true then match ixOf T.N x, cEs (cE T n sc) es with
          | some i, some es => some (.mut mm i es)
          | _, _ => none else none
        | _, _ => match mfTab.lookup m, cE T n sc o, cEs (cE T n sc) es with
          | some mf, some o, some es => some (.mth mf o es)
          | _, _, _ => none else none
    | .ListComp elt gens scope _ => match gens with
      | [⟨tg, it, ifs, as⟩] => if as = 0 ∧ blkC T.N sc scope (ownOf T.N scope) = true ∧ ifs.all (tOk n) = true ∧ ifs.length ≤ 1 then
          match cTg T.N (stoC scope) n tg, cIt sc (cE T n sc) it, cEs (cE T n (relS scope sc)) ifs, cE T n (relS scope sc) elt with
          | some tg, some it, some ifs, some elt => some (.comp tg it ifs elt ((ownOf T.N scope).map (·.2)))
          | _, _, _, _ => none else none
      | _ => none
    | _ => none

/-! ### statements -/
def aopOf : Operator → Option Bop
  | .Add => some .add
  | .Sub => some .sub
  | _ => none
def notComp : Expr → Bool
  | .ListComp .. => false
  | .SetComp .. => false
  | .DictComp .. => false
  | _ => true
def notTup : Expr → Bool
  | .Tuple .. => false
  | _ => true
def isLoc (sc : Scope) (x : Str) : Bool := match sc.names.lookup x with
  | some .local => true
  | _ => false
/-- a comprehension that is named: on one line, a local -/
def lcOk (sc : Scope) (x : Str) (px : Pos) (e : Expr) : Bool := match e with
  | .ListComp _ _ scope pos => isLoc sc x && (px.line == pos.line) && !(scope.names.any fun (n, k) => n == x && (k == .local || k == .cell))
  | _ => notComp e
/-- pairs and triples of plain names -/
def parNames (N : List Str) (sc : Scope) (l : Nat) : List Expr → Option (List Nat)
  | [] => some []
  | .Name x p :: r => if isLoc sc x = true ∧ (p.line == l) = true then match ixOf N x, parNames N sc l r with
    | some i, some is => some (i :: is)
    | _, _ => none else none
  | _ :: _ => none
def nodupB : List Nat → Bool
  | [] => true
  | i :: r => !(r.contains i) && nodupB r
/-- .. whose values are stored from the right -/
def parOk (ts vs : List Expr) : Bool := (ts.length == 2 || ts.length == 3) && vs.length == ts.length && noStarT vs && !(vs.all (foldedForSure 8)) && !(vs.all (constantsAlone 8))
/-- .. that are unpacked -/
def offT (sc : Scope) : Expr → Bool
  | .Name x _ => !isLoc sc x
  | _ => true
def genOk (sc : Scope) (ts vs : List Expr) : Bool := !(ts.length == 2 || ts.length == 3) || (vs.length == ts.length && noStarT vs && (vs.all (foldedForSure 8) || ts.any (offT sc)))
mutual
def cS (T : Env_) (m : Nat) (sc : Scope) : Nat → Stmt → Option Stm
  | 0, _ => none
  | n + 1, s => match s with
    | .Assign [.Name x px] e _ => if stoC sc x = true ∧ lcOk sc x px e = true then match ixOf T.N x, cE T m sc e with
      | some i, some ir => some (.asg (.nm i) ir)
      | _, _ => none else none
    | .Assign [.Tuple ts k pt] (.Tuple vs k2 p2) _ => if parOk ts vs = true ∧ ts.any (offT sc) = false then match parNames T.N sc ((ts.head?.map (·.pos.line)).getD 0) ts, cEs (cE T m sc) vs with
        | some is, some irs => if nodupB is = true then some (.par is irs) else none
        | _, _ => none
      else if genOk sc ts vs = true then match cTg T.N (stoC sc) m (.Tuple ts k pt), cE T m sc (.Tuple vs k2 p2) with
        | some t, some ir => some (.asg t ir)
        | _, _ => none
      else none
    | .Assign [.Tuple ts k pt] e _ => if notTup e = true ∧ notComp e = true then match cTg T.N (stoC sc) m (.Tuple ts k pt), cE T m sc e with
      | some t, some ir => some (.asg t ir)
      | _, _ => none else none
    | .Assign [.Subscript (.Name x px) i _] e _ => if (x == ("__debug__" : Str)) = false ∧ (x == ("__classdict__" : Str)) = false ∧ visC sc x = true ∧ notSlice i = true ∧ notComp e = true then match ixOf T.N x, cE T m sc i, cE T m sc e with
      | some j, some k, some ir => some (.setI j k ir)
      | _, _, _ => none else none
    | .AugAssign (.Name x _) op e _ => if stoC sc x = true then match ixOf T.N x, aopOf op, cE T m sc e with
      | some i, some o, some ir => some (.aug i o ir)
      | _, _, _ => none else none
    | .Expr (.Constant (.str _) _ _) _ => some .pass
    | .Expr e _ => if notComp e = true then (cE T m sc e).map .expr else none
    | .Return (some e) _ => (cE T m sc e).map .ret
    | .Return none _ => some .ret0
    | .If c a b _ => if tOk m c = true then match cE T m sc c, cSs T m sc n a, cSs T m sc n b with
      | some c, some a, some b => some (.ife c a b)
      | _, _, _ => none else none
    | .For tg it body [] _ => match cTg T.N (stoC sc) m tg, cIt sc (cE T m sc) it, cSs T m sc n body with
      | some t, some i, some b => some (.forr t i b)
      | _, _, _ => none
    | .While c body [] _ => if tOk m c = true then match cE T m sc c, cSs T m sc n body with
      | some c, some b => some (.whl c b)
      | _, _ => none else none
    | .Break _ => some .brk
    | .Continue _ => some .cnt
    | .Pass _ => some .pass
    | _ => none
def cSs (T : Env_) (m : Nat) (sc : Scope) : Nat → List Stmt → Option (List Stm)
  | 0, _ => none
  | n + 1, ss => match ss with
    | [] => some []
    | s :: r => match cS T m sc n s, cSs T m sc n r with
      | some a, some b => some (a :: b)
      | _, _ => none
end
end PD
/-! PD6: what the small language says holds of the text. -/
namespace PD
open PySem L2 PySem.Spec PyProof.Rows

/-! ### weakest readings -/
def PEat (X : Cx) (e : Expr) : TE := fun σ H Q => ∀ (pins : List (Addr × Obj)) (s : Shared), Inv X pins σ H s → wpAny (model X.prog X.w) X.A (eval e X.env) (EP X pins σ Q) X.xe s
def PTat (X : Cx) (e : Expr) : TT := fun σ H Q => ∀ (pins : List (Addr × Obj)) (s : Shared), Inv X pins σ H s → wpAny (model X.prog X.w) X.A (isTrue e X.env (eval e X.env)) (TP X pins σ Q) X.xe s
def PWat (X : Cx) (e : Expr) : TT := fun σ H Q => ∀ (whole : Sem Value) (pins : List (Addr × Obj)) (s : Shared), Inv X pins σ H s → wpAny (model X.prog X.w) X.A (isTrue e X.env whole) (TP X pins σ Q) X.xe s
def PAat (X : Cx) (es : List Expr) : TA := fun σ H Q => ∀ (pos : Pos) (pins : List (Addr × Obj)) (s : Shared), Inv X pins σ H s → wpAny (model X.prog X.w) X.A (spliced (backTo pos (starEach es X.env))) (AP X pins σ Q) X.xe s
section
variable {X : Cx} {e : Expr} {es : List Expr}
theorem pe_at : PE X e (PEat X e) := ⟨fun pins s σ H Q I h => h pins s I⟩
theorem pt_at : PT X e (PTat X e) := ⟨fun pins s σ H Q I h => h pins s I⟩
theorem pw_at : PW X e (PWat X e) := ⟨fun wh pins s σ H Q I h => h wh pins s I⟩
theorem pa_at : PA X es (PAat X es) := ⟨fun pos pins s σ H Q I h => h pos pins s I⟩
theorem PEat.of {t : TE} (h : PE X e t) {σ : L2.St} {H : Hp} {Q : VK} (q : t σ H Q) : PEat X e σ H Q := fun pins s I => h.run pins s σ H Q I q
theorem PTat.of {t : TT} (h : PT X e t) {σ : L2.St} {H : Hp} {Q : Bool → Hp → Prop} (q : t σ H Q) : PTat X e σ H Q := fun pins s I => h.run pins s σ H Q I q
theorem PWat.of {t : TT} (h : PW X e t) {σ : L2.St} {H : Hp} {Q : Bool → Hp → Prop} (q : t σ H Q) : PWat X e σ H Q := fun wh pins s I => h.run wh pins s σ H Q I q
theorem PAat.of {t : TA} (h : PA X es t) {σ : L2.St} {H : Hp} {Q : List V → Hp → Prop} (q : t σ H Q) : PAat X es σ H Q := fun pos pins s I => h.run pos pins s σ H Q I q
theorem PEat.mono {σ : L2.St} {H : Hp} {Q Q' : VK} (h : PEat X e σ H Q) (q : ∀ v H', Q v H' → Q' v H') : PEat X e σ H Q' := fun pins s I =>
  thn (h pins s I) fun u s' ⟨v, H', I', r, z⟩ => ⟨v, H', I', r, q _ _ z⟩
theorem PTat.mono {σ : L2.St} {H : Hp} {Q Q' : Bool → Hp → Prop} (h : PTat X e σ H Q) (q : ∀ v H', Q v H' → Q' v H') : PTat X e σ H Q' := fun pins s I =>
  thn (h pins s I) fun u s' ⟨H', I', z⟩ => ⟨H', I', q _ _ z⟩
theorem PAat.mono {σ : L2.St} {H : Hp} {Q Q' : List V → Hp → Prop} (h : PAat X es σ H Q) (q : ∀ v H', Q v H' → Q' v H') : PAat X es σ H Q' := fun pos pins s I =>
  thn (h pos pins s I) fun u s' ⟨v, H', I', r, z⟩ => ⟨v, H', I', r, q _ _ z⟩
end

/-- an exception in the air -/
def XPost {W : Wd} (F : Frm W) (mg : Str → Option Value) (xq : XQ W) : WX := fun c d σ H => ∃ x st M, Rel F st M σ H ∧ ExRep mg (seen M st.g H) c d x ∧ xq x st

/-- where the text is walked -/
structure Good {W : Wd} (Φ : Tab W) (T : Env_) (X : Cx) (sc : Scope) : Prop where
  N : X.N = T.N
  sc : X.env.scope = sc
  calm : X.calm = true
  nd : T.N.Nodup
  gd : X.A.guards = some []
  un : X.A.units + 66 < cLine
  bl : ∀ x ∈ bNames, X.mg x = none
  real : ∀ f F, Φ f = some F → RealAt X f F
  cst : ∀ x d, T.cs x = some d → ∃ u v, X.mg x = some u ∧ RelV v u ∧ ∀ S, Rp S v d
  fs : ∀ f, T.fs f = true → ∃ F, Φ f = some F

section
variable {W : Wd} {Φ : Tab W} {T : Env_} {X : Cx} {sc : Scope}
theorem Good.kind (G : Good Φ T X sc) {x : Str} {k : NameKind} (h : sc.names.lookup x = some k) : X.env.kindOf x = some k := by
  show X.env.scope.names.lookup x = some k
  rw [G.sc]
  exact h
theorem Good.vis (G : Good Φ T X sc) {x : Str} (h : visC sc x = true) : Vis X.env.scope x := by
  rw [G.sc]
  exact visC_vis h
theorem Good.gl (G : Good Φ T X sc) {x : Str} (h : glC sc x = true) : Gl X x := G.kind (glC_gl h)

/-- one expression; one test -/
def SndE (Φ : Tab W) (T : Env_) (sc : Scope) (e : Expr) (ir : E) : Prop := ∀ (X : Cx), Good Φ T X sc → ∀ (F : Frm W) (st : SS W) (M : Addr → Bool) (σ : L2.St) (H : Hp) (xq : XQ W) (Q : Rs → SS W → Prop),
  Takes X (XPost F X.mg xq) → Rel F st M σ H → wpE Φ ir xq st Q → PEat X e σ H (EPost F σ st M H Q)
def TPost (F : Frm W) (σ : L2.St) (st : SS W) (M : Addr → Bool) (H : Hp) (K : Bool → SS W → Prop) : Bool → Hp → Prop := fun b H' => ∃ st' M', Adv σ st M H st' M' H' ∧ Rel F st' M' σ H' ∧ K b st'
def SndT (Φ : Tab W) (T : Env_) (sc : Scope) (e : Expr) (ir : E) : Prop := ∀ (X : Cx), Good Φ T X sc → ∀ (F : Frm W) (st : SS W) (M : Addr → Bool) (σ : L2.St) (H : Hp) (xq : XQ W) (K : Bool → SS W → Prop),
  Takes X (XPost F X.mg xq) → Rel F st M σ H → wpT Φ ir xq st K → PTat X e σ H (TPost F σ st M H K)

variable {F : Frm W} {st : SS W} {M : Addr → Bool} {σ : L2.St} {H : Hp} {xq : XQ W}

theorem TPost.trans {st1 : SS W} {M1 : Addr → Bool} {H1 H' : Hp} {K : Bool → SS W → Prop} {b : Bool} (a : Adv σ st M H st1 M1 H1) (h : TPost F σ st1 M1 H1 K b H') : TPost F σ st M H K b H' := by
  obtain ⟨st', M', ad, re, q⟩ := h
  exact ⟨st', M', a.trans ad, re, q⟩

/-! ### names -/
theorem get_slot (re : Rel F st M σ H) {i : Nat} (h : (st.get i).isSome = true) : ∃ v, σ[i]? = some (some v) := by
  unfold SS.get at h
  cases q : st.sl[i]? with
  | none => rw [q] at h; cases h
  | some y =>
    rw [q] at h
    have z := re.sl i y q
    cases y with
    | un => cases h
    | val y => obtain ⟨v, z1, _⟩ := z; exact ⟨v, z1⟩
    | own y => obtain ⟨a, z1, _⟩ := z; exact ⟨_, z1⟩
theorem at_name (G : Good Φ T X sc) {x : Str} {pos : Pos} {i : Nat} (hi : ixOf T.N x = some i) (hv : visC sc x = true) (hd : (x == ("__debug__" : Str)) = false) (hc : (x == ("__classdict__" : Str)) = false) {v : V} (e : σ[i]? = some (some v)) {Q : VK} (q : Q v H) : PEat X (.Name x pos) σ H Q :=
  PEat.of (pe_var (i := i) (by rw [G.N]; exact ixOf_get hi) (G.vis hv) hd hc) ⟨v, e, q⟩

/-- an operand -/
theorem snd_op {e : Expr} {ir : E} (hE : SndE Φ T sc e ir) (hv : ∀ i, ir = .var i → ∃ x pos, e = .Name x pos ∧ ixOf T.N x = some i ∧ visC sc x = true ∧ (x == ("__debug__" : Str)) = false ∧ (x == ("__classdict__" : Str)) = false)
    (G : Good Φ T X sc) (tk : Takes X (XPost F X.mg xq)) (re : Rel F st M σ H) {K : Op → SS W → Prop} (h : opd ir.isVar (wpE Φ ir xq) st K) : PEat X e σ H (OPost F σ st M H K) := by
  cases q : ir.isVar with
  | some i =>
    rw [q] at h
    have e1 : ir = .var i := by
      cases ir <;> first
        | cases q
        | skip
      rfl
    obtain ⟨x, pos, rfl, h1, h2, h3, h4⟩ := hv i e1
    obtain ⟨g, k⟩ := h
    obtain ⟨v, ev⟩ := get_slot re g
    exact at_name G h1 h2 h3 h4 ev ⟨.slot i, st, M, Adv.refl _ _ _ _, re, ev, k⟩
  | none =>
    rw [q] at h
    refine (hE X G F st M σ H xq _ tk re h).mono fun v H' z => ?_
    obtain ⟨x, st', M', ad, re', rp, k⟩ := z.let_go (Q' := fun x st' => K (.now x) st') re fun r st' k => k
    exact ⟨.now x, st', M', ad, re', rp, k⟩
/-- a value that is let go -/
theorem snd_val {e : Expr} {ir : E} (hE : SndE Φ T sc e ir) (G : Good Φ T X sc) (tk : Takes X (XPost F X.mg xq)) (re : Rel F st M σ H) {K : SV → SS W → Prop} (h : wpE Φ ir xq st fun r st' => K r.sv st') :
    PEat X e σ H (VPost F σ st M H K) := (hE X G F st M σ H xq _ tk re h).mono fun v H' z => z.let_go re fun r st' k => k

/-- lists of expressions, let go -/
def EsPost (F : Frm W) (σ : L2.St) (st : SS W) (M : Addr → Bool) (H : Hp) (K : List SV → SS W → Prop) : List V → Hp → Prop := fun vs H' =>
  ∃ xs st' M', Adv σ st M H st' M' H' ∧ Rel F st' M' σ H' ∧ RepAll (seen M' st'.g H') vs xs ∧ K xs st'
def OsPost (F : Frm W) (σ : L2.St) (st : SS W) (M : Addr → Bool) (H : Hp) (K : List Op → SS W → Prop) : List V → Hp → Prop := fun vs H' =>
  ∃ xs st' M', Adv σ st M H st' M' H' ∧ Rel F st' M' σ H' ∧ OpsRep σ (seen M' st'.g H') vs xs ∧ K xs st'
theorem star_cons {e : Expr} (es : List Expr) (env : PySem.Env) (h : notStar e = true) : starEach (e :: es) env = (false, eval e env) :: starEach es env := by
  cases e <;> first
    | rfl
    | cases h

/-- expressions that are served -/
def IsVarE (T : Env_) (sc : Scope) (e : Expr) (ir : E) : Prop := ∀ i, ir = .var i → ∃ x pos, e = .Name x pos ∧ ixOf T.N x = some i ∧ visC sc x = true ∧ (x == ("__debug__" : Str)) = false ∧ (x == ("__classdict__" : Str)) = false
inductive Served (Φ : Tab W) (T : Env_) (sc : Scope) : List Expr → Es → Prop
  | nil : Served Φ T sc [] .nil
  | cons {e : Expr} {es : List Expr} {ir : E} {irs : Es} : notStar e = true → SndE Φ T sc e ir → IsVarE T sc e ir → Served Φ T sc es irs → Served Φ T sc (e :: es) (.cons ir irs)
theorem snd_es (G : Good Φ T X sc) (tk : Takes X (XPost F X.mg xq)) : ∀ {es : List Expr} {irs : Es} {st : SS W} {M : Addr → Bool} {H : Hp} {K : List SV → SS W → Prop}, Served Φ T sc es irs → Rel F st M σ H → wpEs Φ irs xq st K →
    PAat X es σ H (EsPost F σ st M H K)
  | _, _, st, M, H, K, .nil, re, h => PAat.of pa_nil ⟨[], st, M, Adv.refl _ _ _ _, re, .nil, h⟩
  | _, _, st, M, H, K, .cons (e := e) (es := es) hs hE hv t, re, h => by
    refine PAat.of (pa_cons pe_at pa_at (star_cons _ _ hs)) ?_
    refine (snd_val (K := fun x st1 => wpEs Φ _ xq st1 fun xs st2 => K (x :: xs) st2) hE G tk re h).mono fun v H1 z => ?_
    obtain ⟨x, st1, M1, ad1, re1, rp1, h1⟩ := z
    refine (snd_es G tk t re1 h1).mono fun vs H2 z2 => ?_
    obtain ⟨xs, st2, M2, ad2, re2, rp2, h2⟩ := z2
    exact ⟨x :: xs, st2, M2, ad1.trans ad2, re2, .cons (rp1.sub ad2.sub) rp2, h2⟩
theorem snd_os (G : Good Φ T X sc) (tk : Takes X (XPost F X.mg xq)) : ∀ {es : List Expr} {irs : Es} {st : SS W} {M : Addr → Bool} {H : Hp} {K : List Op → SS W → Prop}, Served Φ T sc es irs → Rel F st M σ H → wpOs Φ irs xq st K →
    PAat X es σ H (OsPost F σ st M H K)
  | _, _, st, M, H, K, .nil, re, h => PAat.of pa_nil ⟨[], st, M, Adv.refl _ _ _ _, re, .nil, h⟩
  | _, _, st, M, H, K, .cons (e := e) (es := es) hs hE hv t, re, h => by
    refine PAat.of (pa_cons pe_at pa_at (star_cons _ _ hs)) ?_
    refine (snd_op hE hv G tk re h).mono fun v H1 z => ?_
    obtain ⟨x, st1, M1, ad1, re1, rp1, h1⟩ := z
    refine (snd_os G tk t re1 h1).mono fun vs H2 z2 => ?_
    obtain ⟨xs, st2, M2, ad2, re2, rp2, h2⟩ := z2
    exact ⟨x :: xs, st2, M2, ad1.trans ad2, re2, .cons (rp1.sub ad2.sub) rp2, h2⟩

theorem dats_all {S : Hp} : ∀ {xs : List SV} {ds : List D} {vs : List V}, dats xs = some ds → RepAll S vs xs → RpAll S vs ds
  | [], _, _, e, h => by
    cases e
    cases h
    exact .nil
  | .d x :: r, ds, _, e, h => by
    unfold dats at e
    cases q : dats r with
    | none => rw [q] at e; cases e
    | some ys =>
      rw [q] at e
      cases e
      cases h with
      | cons h1 h2 => exact .cons h1 (dats_all q h2)
  | .r _ :: _, _, _, e, _ => by cases e

/-! ### the forms -/
theorem snd_name {n : Nat} {x : Str} {pos : Pos} {i : Nat} (hi : ixOf T.N x = some i) (hv : visC sc x = true) (hd : (x == ("__debug__" : Str)) = false) (hc : (x == ("__classdict__" : Str)) = false) : SndE Φ T sc (.Name x pos) (.var i) := by
  intro X G F st M σ H xq Q tk re h
  obtain ⟨y, e, q⟩ := (by unfold wpE at h; exact h : ∃ x, st.get i = some x ∧ Q (.v x) (st.frz i))
  obtain ⟨v, ev⟩ := get_slot re (i := i) (by rw [e]; rfl)
  obtain ⟨M', ad, re'⟩ := re.frz i
  exact at_name G hi hv hd hc ev ⟨.v y, st.frz i, M', ad, re', OpRep.rep re' ev e, q⟩
theorem snd_global {x : Str} {pos : Pos} {d : D} (hg : glC sc x = true) (hd : (x == ("__debug__" : Str)) = false) (hc : T.cs x = some d) : SndE Φ T sc (.Name x pos) (.cst d) := by
  intro X G F st M σ H xq Q tk re h
  obtain ⟨u, v, hm, r, rp⟩ := G.cst x d hc
  unfold wpE at h
  exact PEat.of (pe_glob (G.gl hg) hm r hd) (Out.post re (.same (x := .d d) (rp _)) h)
theorem snd_cst {c : Const} {k : Nat} {pos : Pos} {d : D} (e : cstD c = some d) : SndE Φ T sc (.Constant c k pos) (.cst d) := by
  intro X G F st M σ H xq Q tk re h
  unfold wpE at h
  cases c with
  | none => cases e; exact PEat.of pe_non (Out.post re (.same (x := .d .none) .non) h)
  | bool b => cases e; exact PEat.of pe_bl (Out.post re (.same (x := .d (.bool b)) (.bl b)) h)
  | int b => cases e; exact PEat.of pe_int (Out.post re (.same (x := .d (.int b)) (.int b)) h)
  | str b => cases e; exact PEat.of pe_str (Out.post re (.same (x := .d (.str b)) (.str b)) h)
  | _ => cases e
theorem snd_tup {es : List Expr} {irs : Es} {k : Nat} {pos : Pos} (s : Served Φ T sc es irs) : SndE Φ T sc (.Tuple es k pos) (.tup irs) := by
  intro X G F st M σ H xq Q tk re h
  unfold wpE at h
  refine PEat.of (pe_tup pa_at) ?_
  refine (snd_es G tk s re h).mono fun vs H1 z => ?_
  obtain ⟨xs, st1, M1, ad, re1, rp, ds, e, hz, q⟩ := z
  have ra := dats_all e rp
  exact ⟨by rw [ra.length]; exact hz, fun p hp => EPost.trans ad (Out.post re1 (.tup hp ra) q)⟩
theorem snd_lst {es : List Expr} {irs : Es} {pos : Pos} (s : Served Φ T sc es irs) : SndE Φ T sc (.List es pos) (.lst irs) := by
  intro X G F st M σ H xq Q tk re h
  unfold wpE at h
  refine PEat.of (pe_lst pa_at) ?_
  refine (snd_es G tk s re h).mono fun vs H1 z => ?_
  obtain ⟨xs, st1, M1, ad, re1, rp, ds, e, hz, q⟩ := z
  have ra := dats_all e rp
  exact ⟨by rw [ra.length]; exact hz, fun p hp => EPost.trans ad (Out.post re1 (.lst hp ra) q)⟩
/-- two operands -/
theorem two_ops {a b : Expr} {ia ib : E} (ha : SndE Φ T sc a ia) (va : IsVarE T sc a ia) (hb : SndE Φ T sc b ib) (vb : IsVarE T sc b ib) (G : Good Φ T X sc) (tk : Takes X (XPost F X.mg xq)) (re : Rel F st M σ H)
    {K : SV → SV → SS W → Prop} (h : opd ia.isVar (wpE Φ ia xq) st fun o1 st1 => opd ib.isVar (wpE Φ ib xq) st1 fun o2 st2 => ∃ x y, o1.get st2 = some x ∧ o2.get st2 = some y ∧ K x y st2)
    {R : V → V → Hp → Prop} (hr : ∀ v u st2 M2 H2 x y, Adv σ st M H st2 M2 H2 → Rel F st2 M2 σ H2 → BR (seen M2 st2.g H2) H2 v x → BR (seen M2 st2.g H2) H2 u y → K x y st2 → R v u H2) :
    PEat X a σ H fun v H1 => PEat X b σ H1 fun u H2 => R v u H2 := by
  refine (snd_op ha va G tk re h).mono fun v H1 z => ?_
  obtain ⟨o1, st1, M1, ad1, re1, rp1, h1⟩ := z
  refine (snd_op hb vb G tk re1 h1).mono fun u H2 z2 => ?_
  obtain ⟨o2, st2, M2, ad2, re2, rp2, x, y, e1, e2, k⟩ := z2
  exact hr v u st2 M2 H2 x y (ad1.trans ad2) re2 ((rp1.sub ad2.sub).br re2 e1) (rp2.br re2 e2) k
theorem snd_bin {a b : Expr} {ia ib : E} {op : Bop} {pos : Pos} (ha : SndE Φ T sc a ia) (va : IsVarE T sc a ia) (hb : SndE Φ T sc b ib) (vb : IsVarE T sc b ib) : SndE Φ T sc (.BinOp a op.op b pos) (.bin op ia ib) := by
  intro X G F st M σ H xq Q tk re h
  unfold wpE at h
  refine PEat.of (pe_op (bin_ok op) pe_at pe_at) ?_
  refine two_ops (K := fun x y st2 => binW op x y fun r => Q r st2) ha va hb vb G tk re h fun v u st2 M2 H2 x y ad re2 b1 b2 k => ?_
  refine ⟨_, x, y, seen_sub, b1, b2, ?_⟩
  exact binW_mono k fun r q v' H' o => EPost.trans ad (Out.post re2 o q)
theorem snd_cmp {a b : Expr} {ia ib : E} {op : CmpOp} {pos : Pos} (hn : notSet b = true) (ha : SndE Φ T sc a ia) (va : IsVarE T sc a ia) (hb : SndE Φ T sc b ib) (vb : IsVarE T sc b ib) : SndE Φ T sc (.Compare a [op] [b] pos) (.cmp (copOf op) ia ib) := by
  intro X G F st M σ H xq Q tk re h
  unfold wpE at h
  have hm : behindInMarks (copOf op).op b = false := by
    cases b <;> first
      | rfl
      | cases hn
  have key := pe_cmpR (pos := pos) (cmp_ok (X := X) (by have := G.un; omega) (copOf op)) (pe_at (e := a)) (pe_at (e := b)) hm
  rw [copOf_op] at key
  refine PEat.of key ?_
  refine two_ops (K := fun x y st2 => cmpW (copOf op) x y fun r => Q (.v (.d (.bool r))) st2) ha va hb vb G tk re h fun v u st2 M2 H2 x y ad re2 b1 b2 k => ?_
  exact ⟨_, x, y, seen_sub, b1, b2, cmpW_mono k fun r q => EPost.trans ad (Out.post re2 (.same (x := .d (.bool r)) (.bl r)) q)⟩
theorem snd_neg {a : Expr} {ia : E} {pos : Pos} (ha : SndE Φ T sc a ia) : SndE Φ T sc (.UnaryOp .USub a pos) (.neg ia) := by
  intro X G F st M σ H xq Q tk re h
  unfold wpE at h
  refine PEat.of (pe_un neg_ok pe_at) ?_
  refine (snd_val (K := fun x st' => negW x fun r' => Q r' st') ha G tk re h).mono fun v H1 z => ?_
  obtain ⟨x, st1, M1, ad, re1, rp, k⟩ := z
  refine ⟨_, x, seen_sub, BR.of rp, ?_⟩
  unfold negW at k ⊢
  split at k
  · exact fun v' H' o => EPost.trans ad (Out.post re1 o k)
  · exact k.elim
theorem snd_not {a : Expr} {ia : E} {pos : Pos} (ha : SndE Φ T sc a ia) (va : IsVarE T sc a ia) : SndE Φ T sc (.UnaryOp .Not a pos) (.not ia) := by
  intro X G F st M σ H xq Q tk re h
  unfold wpE at h
  refine PEat.of (pe_notT pe_at) ?_
  refine (snd_op ha va G tk re h).mono fun v H1 z => ?_
  obtain ⟨o, st1, M1, ad, re1, rp, x, t, e1, e2, q⟩ := z
  exact ⟨t, truV_of seen_sub (rp.br re1 e1) e2, EPost.trans ad (Out.post re1 (.same (x := .d (.bool (!t))) (.bl _)) q)⟩
/-- an operand that is handed on -/
theorem op_on (re : Rel F st M σ H) {v : V} {o : Op} {x : SV} (rp : OpRep σ (seen M st.g H) v o) (e : o.get st = some x) {Q : Rs → SS W → Prop} (q : Q (.v x) (o.frz st)) : EPost F σ st M H Q v H := by
  cases o with
  | slot i =>
    obtain ⟨M', ad, re'⟩ := re.frz i
    exact ⟨.v x, st.frz i, M', ad, re', OpRep.rep re' rp e, q⟩
  | now y =>
    obtain rfl : y = x := Option.some.inj e
    exact ⟨.v y, st, M, Adv.refl _ _ _ _, re, rp, q⟩
theorem snd_and {a b : Expr} {rest : List Expr} {ia ib : E} {pos : Pos} (ha : SndE Φ T sc a ia) (va : IsVarE T sc a ia) (hb : SndE Φ T sc (.BoolOp .And (b :: rest) pos) ib) : SndE Φ T sc (.BoolOp .And (a :: b :: rest) pos) (.and ia ib) := by
  intro X G F st M σ H xq Q tk re h
  unfold wpE at h
  refine PEat.of (pe_andT pe_at pe_at) ?_
  refine (snd_op ha va G tk re h).mono fun v H1 z => ?_
  obtain ⟨o, st1, M1, ad, re1, rp, x, t, e1, e2, q⟩ := z
  refine ⟨t, truV_of seen_sub (rp.br re1 e1) e2, ?_⟩
  cases t with
  | true =>
    rw [if_pos rfl] at q ⊢
    exact (hb X G F st1 M1 σ H1 xq Q tk re1 q).mono fun _ _ z => z.trans ad
  | false =>
    rw [if_neg Bool.false_ne_true] at q ⊢
    exact (op_on re1 rp e1 q).trans ad
theorem snd_or {a b : Expr} {rest : List Expr} {ia ib : E} {pos : Pos} (ha : SndE Φ T sc a ia) (va : IsVarE T sc a ia) (hb : SndE Φ T sc (.BoolOp .Or (b :: rest) pos) ib) : SndE Φ T sc (.BoolOp .Or (a :: b :: rest) pos) (.or ia ib) := by
  intro X G F st M σ H xq Q tk re h
  unfold wpE at h
  refine PEat.of (pe_orT pe_at pe_at) ?_
  refine (snd_op ha va G tk re h).mono fun v H1 z => ?_
  obtain ⟨o, st1, M1, ad, re1, rp, x, t, e1, e2, q⟩ := z
  refine ⟨t, truV_of seen_sub (rp.br re1 e1) e2, ?_⟩
  cases t with
  | true =>
    rw [if_pos rfl] at q ⊢
    exact (op_on re1 rp e1 q).trans ad
  | false =>
    rw [if_neg Bool.false_ne_true] at q ⊢
    exact (hb X G F st1 M1 σ H1 xq Q tk re1 q).mono fun _ _ z => z.trans ad
theorem snd_one {a : Expr} {ia : E} {op : BoolOp} {pos : Pos} (ha : SndE Φ T sc a ia) : SndE Φ T sc (.BoolOp op [a] pos) ia := by
  intro X G F st M σ H xq Q tk re h
  exact PEat.of (pe_one pe_at) (ha X G F st M σ H xq Q tk re h)
theorem snd_ife {c a b : Expr} {ic ia ib : E} {pos : Pos} (hc : SndT Φ T sc c ic) (ha : SndE Φ T sc a ia) (hb : SndE Φ T sc b ib) : SndE Φ T sc (.IfExp c a b pos) (.ife ic ia ib) := by
  intro X G F st M σ H xq Q tk re h
  unfold wpE at h
  refine PEat.of (pe_ifExp pt_at pe_at pe_at) ?_
  refine (hc X G F st M σ H xq (fun t st1 => if t = true then wpE Φ ia xq st1 Q else wpE Φ ib xq st1 Q) tk re h).mono fun t H1 z => ?_
  obtain ⟨st1, M1, ad, re1, q⟩ := z
  cases t with
  | true =>
    rw [if_pos rfl] at q ⊢
    exact (ha X G F st1 M1 σ H1 xq Q tk re1 q).mono fun _ _ z => z.trans ad
  | false =>
    rw [if_neg Bool.false_ne_true] at q ⊢
    exact (hb X G F st1 M1 σ H1 xq Q tk re1 q).mono fun _ _ z => z.trans ad
theorem snd_idx {a b : Expr} {ia ib : E} {pos : Pos} (hn : notSlice b = true) (ha : SndE Φ T sc a ia) (va : IsVarE T sc a ia) (hb : SndE Φ T sc b ib) : SndE Φ T sc (.Subscript a b pos) (.idx ia ib) := by
  intro X G F st M σ H xq Q tk re h
  unfold wpE at h
  have hx : PlainIx b := by
    cases b <;> first
      | exact fun _ _ => rfl
      | cases hn
  refine PEat.of (pe_ix idx_ok pe_at pe_at hx) ?_
  refine (snd_op ha va G tk re h).mono fun v H1 z => ?_
  obtain ⟨o1, st1, M1, ad1, re1, rp1, h1⟩ := z
  refine (snd_val (K := fun y st2 => ∃ x, o1.get st2 = some x ∧ idxW x y fun r => Q r st2) hb G tk re1 h1).mono fun u H2 z2 => ?_
  obtain ⟨y, st2, M2, ad2, re2, rp2, x, e1, k⟩ := z2
  refine ⟨_, x, y, seen_sub, (rp1.sub ad2.sub).br re2 e1, BR.of rp2, ?_⟩
  exact idxW_mono k fun r q v' H' o => EPost.trans (ad1.trans ad2) (Out.post re2 o q)
theorem snd_blt {f : Bf} {x : Str} {p pos : Pos} {e : Expr} {es : List Expr} {irs : Es} (hx : bfOf x = some f) (hg : glC sc x = true) (s : Served Φ T sc (e :: es) irs) : SndE Φ T sc (.Call (.Name x p) (e :: es) [] pos) (.blt f irs) := by
  intro X G F st M σ H xq Q tk re h
  unfold wpE at h
  have hs : notStar e = true := by cases s; assumption
  have hpl : (backTo pos (starEach es X.env)).any (·.1) = false := by
    have : ∀ (es : List Expr) (irs : Es), Served Φ T sc es irs → (backTo pos (starEach es X.env)).any (·.1) = false := by
      intro es
      induction es with
      | nil => intro irs _; rfl
      | cons a r ih =>
        intro irs s
        cases s with
        | cons h1 h2 h3 h4 =>
          rw [star_cons _ _ h1]
          show (false || (backTo pos (starEach r X.env)).any (·.1)) = false
          rw [ih _ h4]
          rfl
    cases s with
    | cons h1 h2 h3 h4 => exact this _ _ h4
  have q := (snd_os G tk s re h).mono (Q' := fun vs H' => ∃ S xs, Sub S H' ∧ BRs S H' vs xs ∧ bltW f xs fun r => ∀ v' H'', Out S H' r v' H'' → EPost F σ st M H Q v' H'') fun vs H1 z => by
    obtain ⟨os, st1, M1, ad, re1, rp, xs, e1, k⟩ := z
    exact ⟨_, xs, seen_sub, rp.brs re1 e1, bltW_mono k fun r q v' H' o => EPost.trans ad (Out.post re1 o q)⟩
  have hb := blt_ok (X := X) G.calm G.gd G.un f
  have hgl := G.gl hg
  unfold bfOf bfTab at hx
  simp only [List.lookup] at hx
  repeat' split at hx
  all_goals first
    | (cases hx; done)
    | (rename_i hx2
       have ex := eq_of_beq hx2
       cases hx
       subst ex
       first
         | exact PEat.of (pe_callB (id := _) hb hgl (G.bl _ (by decide)) (by decide +kernel) pa_at (he := star_cons _ _ hs) (hpl := hpl)) q
         | exact PEat.of (pe_callTy (T := _) hb hgl (G.bl _ (by decide)) (by decide +kernel) pa_at (he := star_cons _ _ hs) (hpl := hpl)) q)
end
end PD
/-! PD7: slices, calls, methods, tests. -/
namespace PD
open PySem L2 PySem.Spec PyProof.Rows
section
variable {W : Wd} {Φ : Tab W} {T : Env_} {X : Cx} {sc : Scope} {F : Frm W} {st : SS W} {M : Addr → Bool} {σ : L2.St} {H : Hp} {xq : XQ W}

/-! ### slices -/
/-- a part of a slice: left out, or an expression -/
inductive ServedO (Φ : Tab W) (T : Env_) (sc : Scope) : Option Expr → Eo → Prop
  | none : ServedO Φ T sc none .none
  | some {e : Expr} {ir : E} : SndE Φ T sc e ir → ServedO Φ T sc (some e) (.some ir)
def PartPost (F : Frm W) (σ : L2.St) (st : SS W) (M : Addr → Bool) (H : Hp) (K : Option Int → SS W → Prop) : Option Int → Hp → Prop := fun i H' =>
  ∃ st' M', Adv σ st M H st' M' H' ∧ Rel F st' M' σ H' ∧ K i st'
def POat (X : Cx) (e : Option Expr) : TO := fun σ H Q => ∀ (pins : List (Addr × Obj)) (s : Shared), Inv X pins σ H s →
  wpAny (model X.prog X.w) X.A (evalPart e X.env) (fun u s' => ∃ o H', Inv X pins σ H' s' ∧ IsPart u o ∧ Q o H') X.xe s
theorem po_at {e : Option Expr} : PO X e (POat X e) := ⟨fun pins s σ H Q I h => h pins s I⟩
theorem POat.of {e : Option Expr} {t : TO} (h : PO X e t) {Q : Option Int → Hp → Prop} (q : t σ H Q) : POat X e σ H Q := fun pins s I => h.run pins s σ H Q I q
theorem POat.mono {e : Option Expr} {Q Q' : Option Int → Hp → Prop} (h : POat X e σ H Q) (q : ∀ v H', Q v H' → Q' v H') : POat X e σ H Q' := fun pins s I =>
  thn (h pins s I) fun u s' ⟨v, H', I', r, z⟩ => ⟨v, H', I', r, q _ _ z⟩
theorem snd_part {e : Option Expr} {io : Eo} (s : ServedO Φ T sc e io) (G : Good Φ T X sc) (tk : Takes X (XPost F X.mg xq)) (re : Rel F st M σ H) {K : Option Int → SS W → Prop}
    (h : wpEo Φ io xq st K) : POat X e σ H (PartPost F σ st M H K) := by
  cases s with
  | none =>
    unfold wpEo at h
    exact POat.of po_none ⟨st, M, Adv.refl _ _ _ _, re, h⟩
  | some hE =>
    unfold wpEo at h
    refine POat.of (po_some pe_at) ?_
    refine (snd_val (K := fun x st' => ∃ i : Int, x = .d (.int i) ∧ K (some i) st') hE G tk re h).mono fun v H1 z => ?_
    obtain ⟨x, st1, M1, ad, re1, rp, i, rfl, k⟩ := z
    cases rp
    exact ⟨i, rfl, st1, M1, ad, re1, k⟩
theorem snd_cut {a : Expr} {lo hi : Option Expr} {ia : E} {il ih : Eo} {p2 pos : Pos} (ha : SndE Φ T sc a ia) (va : IsVarE T sc a ia) (hl : ServedO Φ T sc lo il) (hh : ServedO Φ T sc hi ih) :
    SndE Φ T sc (.Subscript a (.Slice lo hi none p2) pos) (.cut ia il ih) := by
  intro X G F st M σ H xq Q tk re h
  unfold wpE at h
  refine PEat.of (pe_slice cut_ok pe_at po_at po_at) ?_
  refine (snd_op ha va G tk re h).mono fun v H1 z => ?_
  obtain ⟨o1, st1, M1, ad1, re1, rp1, h1⟩ := z
  refine (snd_part hl G tk re1 h1).mono fun l H2 z2 => ?_
  obtain ⟨st2, M2, ad2, re2, h2⟩ := z2
  refine (snd_part hh G tk re2 h2).mono fun u H3 z3 => ?_
  obtain ⟨st3, M3, ad3, re3, x, ex, k⟩ := z3
  refine ⟨_, x, seen_sub, ((rp1.sub ad2.sub).sub ad3.sub).br re3 ex, ?_⟩
  exact cutW_mono k fun r q v' H' o => EPost.trans ((ad1.trans ad2).trans ad3) (Out.post re3 o q)
theorem snd_rev {a : Expr} {ia : E} {k : Nat} {p1 p2 p3 pos : Pos} (ha : SndE Φ T sc a ia) (va : IsVarE T sc a ia) : SndE Φ T sc (.Subscript a (.Slice none none (some (.UnaryOp .USub (.Constant (.int 1) k p1) p2)) p3) pos) (.rev ia) := by
  intro X G F st M σ H xq Q tk re h
  unfold wpE at h
  refine PEat.of (pe_rev pe_at) ?_
  refine (snd_op ha va G tk re h).mono fun v H1 z => ?_
  obtain ⟨o, st1, M1, ad, re1, rp, x, e1, q⟩ := z
  exact ⟨_, x, seen_sub, rp.br re1 e1, revW_mono q fun r q v' H' o => EPost.trans ad (Out.post re1 o q)⟩

/-! ### calls of the text's own defs -/
/-- the slots that a call is handed are let go -/
theorem ops_frz : ∀ {vs : List V} {os : List Op} {xs : List SV} {st : SS W} {M : Addr → Bool}, Rel F st M σ H → OpsRep σ (seen M st.g H) vs os → opsGet st os = some xs →
    ∃ M', Adv σ st M H (st.frzs (opsIx os)) M' H ∧ Rel F (st.frzs (opsIx os)) M' σ H ∧ RepAll (seen M' (st.frzs (opsIx os)).g H) vs xs := by
  intro vs os xs st M re rp e
  obtain ⟨M', ad, re'⟩ := re.frzs (opsIx os)
  refine ⟨M', ad, re', ?_⟩
  -- slots among the operands hold no object of their own any more
  have key : ∀ (is : List Nat) (st : SS W) (i : Nat), (∀ y, st.sl[i]? ≠ some (Sl.own y)) → ∀ y, (st.frzs is).sl[i]? ≠ some (Sl.own y) := by
    intro is
    induction is with
    | nil => intro st i h y; exact h y
    | cons j is ih =>
      intro st i h y
      refine ih (st.frz j) i (fun y => ?_) y
      unfold SS.frz
      split
      · rename_i w e
        by_cases q : j = i
        · subst q
          have hl : j < st.sl.length := (List.getElem?_eq_some_iff.mp e).1
          show (st.sl.set j (.val (.d w)))[j]? ≠ _
          rw [List.getElem?_set_self hl]
          intro z
          cases z
        · show (st.sl.set j (.val (.d w)))[i]? ≠ _
          rw [List.getElem?_set_ne q]
          exact h y
      · exact h y
  have mem : ∀ (is : List Nat) (st : SS W) (i : Nat), i ∈ is → ∀ y, (st.frzs is).sl[i]? ≠ some (Sl.own y) := by
    intro is
    induction is with
    | nil => intro st i h; cases h
    | cons j is ih =>
      intro st i h y
      rcases List.mem_cons.mp h with rfl | h
      · refine key is (st.frz i) i (fun y => ?_) y
        unfold SS.frz
        split
        · rename_i w e
          have hl : i < st.sl.length := (List.getElem?_eq_some_iff.mp e).1
          show (st.sl.set i (.val (.d w)))[i]? ≠ _
          rw [List.getElem?_set_self hl]
          intro z
          cases z
        · rename_i n
          exact n y
      · exact ih (st.frz j) i h y
  have getm : ∀ (is : List Nat) (st : SS W) (i : Nat), (st.frzs is).get i = st.get i := by
    intro is
    induction is with
    | nil => intro st i; rfl
    | cons j is ih => intro st i; exact (ih (st.frz j) i).trans (frz_get st j i)
  have go : ∀ {vs : List V} {os' : List Op} {xs : List SV}, (∀ i ∈ opsIx os', i ∈ opsIx os) → OpsRep σ (seen M st.g H) vs os' → opsGet st os' = some xs → RepAll (seen M' (st.frzs (opsIx os)).g H) vs xs := by
    intro vs os'
    induction os' generalizing vs with
    | nil =>
      intro xs _ rp e
      cases rp
      cases e
      exact .nil
    | cons o os' ih =>
      intro xs hm rp e
      cases rp with
      | cons h t =>
        unfold opsGet at e
        cases q1 : o.get st with
        | none => rw [q1] at e; cases e
        | some x =>
          cases q2 : opsGet st os' with
          | none => rw [q1, q2] at e; cases e
          | some ys =>
            rw [q1, q2] at e
            cases e
            refine .cons ?_ (ih (fun i hi => hm i ?_) t q2)
            · cases o with
              | now y =>
                obtain rfl : y = x := Option.some.inj q1
                exact RepSV.sub ad.sub h
              | slot i =>
                have hi := hm i (by unfold opsIx; exact List.mem_cons_self)
                have g1 : (st.frzs (opsIx os)).get i = some x := (getm _ _ _).trans q1
                unfold SS.get at g1
                cases q : (st.frzs (opsIx os)).sl[i]? with
                | none => rw [q] at g1; cases g1
                | some y =>
                  rw [q] at g1
                  have z := re'.sl i y q
                  have h : σ[i]? = some (some _) := h
                  cases y with
                  | un => cases g1
                  | val y =>
                    cases g1
                    obtain ⟨u, z1, z2⟩ := z
                    rw [h] at z1
                    cases z1
                    exact z2
                  | own y => exact absurd q (mem _ _ _ hi y)
            · cases o with
              | slot j => unfold opsIx; exact List.mem_cons_of_mem _ hi
              | now y => exact hi
  exact go (fun i h => h) rp e
theorem scal_rep {S S' : Hp} {v : V} : ∀ {r : Rs}, r.scal = true → (∀ x, r = .v x → RepSV S v x → RepSV S' v x)
  | .v (.d x), h, _, rfl, q => by
    cases q with
    | non => exact .non
    | bl b => exact .bl b
    | int i => exact .int i
    | str z => exact .str z
    | lst _ _ => cases h
    | tup _ _ => cases h
  | .v (.r _), h, _, _, _ => by cases h
  | .f _, h, _, _, _ => by cases h

theorem run_fnG {pins : List (Addr × Obj)} {s : Shared} {k : Nat} {f : Addr} {fd : FuncData} {ps : List Str} {sp : Sp} {Q : VK} {us : List Value} {vs : List V} {Ex : XK} (Fk : FnG X.prog X.w X.K X.mg X.base k f fd ps sp) (hr : Room k X.A)
    (hg : X.A.guards = some []) (hb : Binds X.K fd ps []) (hx : ∀ e s', L2.CX X.prog X.w X.stack H s Ex e s' → X.xe e s') (I : Inv X pins σ H s) (r : Vals vs us) (h : sp vs H Q Ex) : wpAny (model X.prog X.w) X.A (call (.ref f) us) (EP X pins σ Q) X.xe s := by
  have hl : (us ++ ([] : List Value)).length = ps.length := by
    rw [List.append_nil, ← r.length]
    exact Fk.len _ _ _ _ h
  have bt := hb s us I.kIn hl
  rw [List.append_nil] at bt
  refine wpAny_call (codeAny_mono (Fk.run X.A X.stack s H ⟨us, []⟩ us vs Q Ex hr hg I.env0 bt r h) ?_)
  intro res s' hq
  cases res with
  | error e => exact hx e s' hq
  | ok fl =>
    cases fl with
    | ret u => exact I.after hq
    | next => exact hq.elim
    | brk => exact hq.elim
    | cont => exact hq.elim
theorem OpsRep.lens {S : Hp} : ∀ {vs : List V} {os : List Op} {xs : List SV}, OpsRep σ S vs os → opsGet st os = some xs → vs.length = xs.length
  | _, _, _, .nil, e => by
    cases e
    rfl
  | _, _, _, .cons (o := o) (os := os) h t, e => by
    unfold opsGet at e
    cases q1 : o.get st with
    | none => rw [q1] at e; cases e
    | some x =>
      cases q2 : opsGet st os with
      | none => rw [q1, q2] at e; cases e
      | some ys =>
        rw [q1, q2] at e
        cases e
        simp [OpsRep.lens t q2]
theorem plain_any {pos : Pos} (env : PySem.Env) : ∀ {es : List Expr} {irs : Es}, Served Φ T sc es irs → (backTo pos (starEach es env)).any (·.1) = false
  | _, _, .nil => rfl
  | _, _, .cons (e := e) (es := es) h _ _ t => by
    rw [star_cons _ _ h]
    show (false || (backTo pos (starEach es env)).any (·.1)) = false
    rw [plain_any env t]
    rfl
/-- what a def's promise gives at a call -/
theorem sp_call {n : Nat} {Fn_ : Fn W} {mg : Str → Option Value} (re : Rel F st M σ H) {vs : List V} {os : List Op} {xs : List SV} (rp : OpsRep σ (seen M st.g H) vs os) (e : opsGet st os = some xs) (hn : vs.length = n) {Q : Rs → SS W → Prop} {xq : XQ W} {σ0 : L2.St}
    (h : Fn_ xs st.g (fun r g => Q r (after os r st g)) fun x g => xq x ⟨(st.frzs (opsIx os)).sl, g⟩)
    (hm : ∀ {R R' : Rs → W.T → Prop} {E E' : Exn → W.T → Prop}, Fn_ xs st.g R E → (∀ r g, R r g → R' r g) → (∀ x g, E x g → E' x g) → Fn_ xs st.g R' E') :
    spOf mg n Fn_ vs H (EPost F σ st M H Q) (fun c d H' => XPost F mg xq c d σ H') := by
  obtain ⟨M', ad, re', ra⟩ := ops_frz re rp e
  have eg := frzs_g (opsIx os) st
  rw [eg] at ra
  refine ⟨M', st.g, xs, hn, fun a ha => by have := re'.mdom a ha; rw [eg] at this; exact this, re.R, ra, hm h (fun r g' q v H' gr R' rr => ?_) fun x g' q c d H' gr R' xr => ?_⟩
  · by_cases hs : r.scal = true
    · unfold after at q
      rw [if_pos hs] at q
      refine ⟨r, ⟨st.sl, g'⟩, M, Adv.grow re gr, re.grow gr R', ?_, q⟩
      cases r with
      | v x => exact scal_rep hs x rfl rr
      | f x => cases hs
    · unfold after at q
      rw [if_neg hs] at q
      have gr' : Grow (st.frzs (opsIx os)).g H g' H' := by rw [eg]; exact gr
      have re2 := re'.grow gr' R'
      have ad2 := ad.trans (Adv.grow re' gr')
      cases r with
      | v x => exact ⟨.v x, _, M', ad2, re2, rr, q⟩
      | f x =>
        obtain ⟨a, xs', ds, rfl, rfl, hn', hf, e2, e3⟩ := rr
        have fr : Free (⟨(st.frzs (opsIx os)).sl, g'⟩ : SS W) σ a := fun i y z => re'.free_new hn' i y z
        have Mn := re'.M_new hn'
        refine ⟨.f (.list ds), ⟨(st.frzs (opsIx os)).sl, g'⟩, onb M' a, ?_, ?_, ⟨a, rfl, hn', ⟨onb_self, re'.new0 hn', xs', ds, rfl, e2, e3⟩, fr⟩, q⟩
        · refine ⟨?_, fun b hb f => ?_, ad2.own, ad2.alive, ad2.len⟩
          · intro b o z
            obtain ⟨z1, z2, z3⟩ := seen_some.mp (ad2.sub b o z)
            refine seen_at ?_ z2 z3
            have : b ≠ a := fun w => by
              subst w
              have := (seen_some.mp z).2.2
              rw [hn'] at this
              cases this
            rw [onb_ne this]
            exact z1
          · obtain ⟨h1, h2⟩ := ad2.fix b hb f
            exact ⟨onb_of h1, h2⟩
        · exact Rel.hold (st := st.frzs (opsIx os)) re' gr' re2 hn' e2 hf
  · exact ⟨x, ⟨(st.frzs (opsIx os)).sl, g'⟩, M', re'.grow (by rw [eg]; exact gr) R', xr, q⟩
end
end PD
/-! PD8: calls, methods, tests. -/
namespace PD
open PySem L2 PySem.Spec PyProof.Rows
section
variable {W : Wd} {Φ : Tab W} {T : Env_} {X : Cx} {sc : Scope} {F : Frm W} {st : SS W} {M : Addr → Bool} {σ : L2.St} {H : Hp} {xq : XQ W}

theorem snd_call {x : Str} {p pos : Pos} {es : List Expr} {irs : Es} (hg : glC sc x = true) (hd : (x == ("__debug__" : Str)) = false) (hf : T.fs x = true) (s : Served Φ T sc es irs) : SndE Φ T sc (.Call (.Name x p) es [] pos) (.call x irs) := by
  intro X G F st M σ H xq Q tk re h
  unfold wpE at h
  intro pins s0 I
  obtain ⟨Fn0, e0⟩ := G.fs x hf
  obtain ⟨mono, kk, f, fd, ps, har, Fk, hr, hmg, hk, hb⟩ := G.real x Fn0 e0
  have step : ∀ (us : List Value) (s1 : Shared), AP X pins σ (OsPost F σ st M H fun ops st1 => ∃ xs Fn_, opsGet st1 ops = some xs ∧ Φ x = some Fn_ ∧ Fn_ xs st1.g (fun r g => Q r (after ops r st1 g)) fun e g => xq e ⟨(st1.frzs (opsIx ops)).sl, g⟩) us s1 →
      X.K.In s1.heap ∧ wpAny (model X.prog X.w) X.A (call (.ref f) us) (EP X pins σ (EPost F σ st M H Q)) X.xe s1 := by
    rintro us s1 ⟨vs, H1, I1, r1, ops, st1, M1, ad, re1, rp, xs, Fn_, e1, e2, k⟩
    rw [e0] at e2
    obtain rfl : Fn0 = Fn_ := Option.some.inj e2
    refine ⟨I1.kIn, ?_⟩
    have hl : vs.length = ps.length := (rp.lens e1).trans (har _ _ _ _ k)
    have sp := sp_call (mg := X.mg) (n := ps.length) (Q := Q) (xq := xq) (σ0 := σ) re1 rp e1 hl k fun h r e => mono _ _ _ _ _ _ h r e
    have w := run_fnG Fk hr G.gd hb (fun e s' c => tk e s' (XE.of_call I1 (fun c d H'' z => z) c)) I1 r1 sp
    exact thn w fun u s2 ⟨v, H2, I2, r2, z⟩ => ⟨v, H2, I2, r2, z.trans ad⟩
  refine wpAny_Call_Name_kw (ld_glob I (G.gl hg) hmg ?_ hd)
  cases s with
  | nil =>
    have a0 := step [] s0 ⟨[], H, I, .nil, [], st, M, Adv.refl _ _ _ _, re, .nil, h⟩
    exact PySem.W.callWith_K0 I.kIn hk a0.2
  | cons h1 h2 h3 h4 =>
    have pa := snd_os G tk (.cons h1 h2 h3 h4) re h
    refine PySem.W.callWith_K (h₀ := X.base) I.ok.mod.kin hk (thn (pa pos pins s0 I) fun us s1 z => step us s1 z) (star_cons _ _ h1) (plain_any X.env h4)

/-! ### methods -/
theorem call_plain {o : Expr} (env : PySem.Env) (m : Str) (h : notCall o = true) : attributeBase o m env (eval o env) = eval o env := by
  cases o <;> first
    | rfl
    | cases h
theorem few_plain {p : Pos} (env : PySem.Env) {es : List Expr} {irs : Es} (s : Served Φ T sc es irs) (hl : es.length < 20) :
    ((backTo p (starEach es env)).all (fun x => !x.1) && (backToKw p (keywordEach [] env)).all (fun x => x.1.isSome) && decide (es.length + ([] : List Keyword).length + (if ([] : List Keyword).isEmpty then 0 else 1) < 30)) = true := by
  have h1 : (backTo p (starEach es env)).all (fun x => !x.1) = true := by
    have h := plain_any (pos := p) env s
    rw [List.all_eq_true]
    intro y hy
    rw [List.any_eq_false] at h
    have := h y hy
    simpa using this
  have h2 : (backToKw p (keywordEach [] env)).all (fun x => x.1.isSome) = true := rfl
  rw [h1, h2]
  simp
  omega
/-- o.m(..) where the object tells what it is -/
def IsMt (X : Cx) (name : Str) (x : V) (H : Hp) (T id : String) (r : V → List V → Hp → VK → Prop) : Prop :=
  PlainAttrs T ∧ Slot T name id ∧ typeOf (.builtin id) = pure (.type "method_descriptor") ∧ MtR X id r ∧ tyV X.K T x H
def tBMX (X : Cx) (name : Str) (to : TE) (t : TA) : TE := fun σ H Q => to σ H fun x H1 => ∃ (T id : String) (r : V → List V → Hp → VK → Prop), IsMt X name x H1 T id r ∧ t σ H1 fun xs H2 => r x xs H2 Q
def tBMX0 (X : Cx) (name : Str) (to : TE) : TE := fun σ H Q => to σ H fun x H1 => ∃ (T id : String) (r : V → List V → Hp → VK → Prop), IsMt X name x H1 T id r ∧ r x [] H1 Q
theorem pe_bmX0 {o : Expr} {name : Str} {ap pos : Pos} {to : TE} (hn : notCall o = true) (hline : (ap.endLine == pos.line) = true) (ho : PE X o to) : PE X (.Call (.Attribute o name ap) [] [] pos) (tBMX0 X name to) := by
  refine ⟨fun pins s1 σ H Q I h => ?_⟩
  refine wpAny_Call_method0_late (call_plain X.env name hn) hline ?_
  refine thn (ho.run pins s1 σ H _ I h) ?_
  rintro v s2 ⟨x, H1, I1, r1, T', id, r, ⟨pa, slot, hty, hm, ty⟩, q⟩
  obtain ⟨k1, k2⟩ := tyV_is I1 r1 ty
  exact ⟨T', id, pa, slot, hty, k1, k2, Calls.callWith_builtin rfl (PySem.evalArgs_none (hm pins s2 σ H1 x [] v [] Q I1 r1 .nil q))⟩
theorem pe_bmX {o e : Expr} {es : List Expr} {irs : Es} {name : Str} {ap pos : Pos} {to : TE} {t : TA} (hn : notCall o = true) (hline : (ap.endLine == pos.line) = true) (hl : (e :: es).length < 20) (s : Served Φ T sc (e :: es) irs)
    (ho : PE X o to) (ha : PA X (e :: es) t) : PE X (.Call (.Attribute o name ap) (e :: es) [] pos) (tBMX X name to t) := by
  refine ⟨fun pins s1 σ H Q I h => ?_⟩
  refine wpAny_Call_method_late (call_plain X.env name hn) (few_plain X.env s hl) hline rfl ?_
  refine thn (ho.run pins s1 σ H _ I h) ?_
  rintro v s2 ⟨x, H1, I1, r1, T', id, r, ⟨pa, slot, hty, hm, ty⟩, q⟩
  obtain ⟨k1, k2⟩ := tyV_is I1 r1 ty
  refine ⟨T', id, pa, slot, hty, k1, k2, ?_⟩
  have hA := ha.run pos pins s2 σ H1 _ I1 q
  cases s with
  | cons h1 h2 h3 h4 =>
    rw [star_cons _ _ h1] at hA ⊢
    refine Calls.callWith_builtin ?_ (Calls.evalArgs_plain ?_)
    · show (false || (backTo pos (starEach _ X.env)).any (·.1)) = false
      rw [plain_any X.env h4]
      rfl
    · exact thn hA fun us s3 ⟨vs, H2, I2, r2, q2⟩ => hm pins s3 σ H2 x vs v us Q I2 r1 r2 q2

theorem mth_is {m : Mf} {mn : Str} {x : SV} {v : V} {S : Hp} (hm : mfTab.lookup mn = some m) (sb : Sub S H) (b : BR S H v x) (ht : mthTy m x) :
    ∃ T id, IsMt X mn v H T id (fun v vs H Q => ∃ S x xs, Sub S H ∧ BR S H v x ∧ BRs S H vs xs ∧ mthW m x xs fun r => ∀ v' H', Out S H r v' H' → Q v' H') := by
  unfold mthTy at ht
  split at ht
  · have e : mn = "join" := by
      unfold mfTab at hm
      simp only [List.lookup] at hm
      repeat' split at hm
      all_goals first
        | (rename_i h; exact eq_of_beq h)
        | cases hm
    subst e
    cases b.str
    exact ⟨"str", "str.join", F.plainAttrs_str, F.slot_str_join, F.type_str_join, mth_ok .join, rfl⟩
  · exact ht.elim
theorem snd_mth {m : Mf} {mn : Str} {ap pos : Pos} {o : Expr} {es : List Expr} {io : E} {irs : Es} (hm : mfTab.lookup mn = some m) (hn : notCall o = true) (hline : (ap.endLine == pos.line) = true) (hl : es.length < 20)
    (ho : SndE Φ T sc o io) (vo : IsVarE T sc o io) (s : Served Φ T sc es irs) : SndE Φ T sc (.Call (.Attribute o mn ap) es [] pos) (.mth m io irs) := by
  intro X G F st M σ H xq Q tk re h
  unfold wpE at h
  cases s with
  | nil =>
    refine PEat.of (pe_bmX0 hn hline pe_at) ?_
    refine (snd_op ho vo G tk re h).mono fun v H1 z => ?_
    obtain ⟨o1, st1, M1, ad1, re1, rp1, ⟨x, ex, ht⟩, h1⟩ := z
    obtain ⟨T', id, mt⟩ := mth_is (X := X) hm seen_sub (rp1.br re1 ex) ht
    refine ⟨T', id, _, mt, ?_⟩
    obtain ⟨y, xs, e1, e2, k⟩ := (by unfold wpOs at h1; exact h1 : ∃ y xs, o1.get st1 = some y ∧ opsGet st1 [] = some xs ∧ mthW m y xs fun r => Q r st1)
    cases e2
    exact ⟨_, y, [], seen_sub, rp1.br re1 e1, .nil, mthW_mono k fun r q v' H' o => EPost.trans ad1 (Out.post re1 o q)⟩
  | cons s1 s2 s3 s4 =>
    have s := Served.cons s1 s2 s3 s4
    refine PEat.of (pe_bmX hn hline hl s pe_at pa_at) ?_
    refine (snd_op ho vo G tk re h).mono fun v H1 z => ?_
    obtain ⟨o1, st1, M1, ad1, re1, rp1, ⟨x, ex, ht⟩, h1⟩ := z
    obtain ⟨T', id, mt⟩ := mth_is (X := X) hm seen_sub (rp1.br re1 ex) ht
    refine ⟨T', id, _, mt, ?_⟩
    refine (snd_os G tk s re1 h1).mono fun vs H2 z2 => ?_
    obtain ⟨os, st2, M2, ad2, re2, rp2, y, xs, e1, e2, k⟩ := z2
    exact ⟨_, y, xs, seen_sub, (rp1.sub ad2.sub).br re2 e1, rp2.brs re2 e2, mthW_mono k fun r q v' H' o => EPost.trans (ad1.trans ad2) (Out.post re2 o q)⟩

/-! ### methods that change a list of the frame's own -/
theorem Rel.set_own (re : Rel F st M σ H) {i : Nat} {a : Addr} {x : D} {ds : List D} {xs : List V} (e : st.sl[i]? = some (Sl.own x)) (ea : σ[i]? = some (some (V.ref a))) (r : RpAll (seen M st.g H) xs ds) (ow : OwnAt F M st.g H a x) :
    Rel F ⟨st.sl.set i (.own (.list ds)), st.g⟩ M σ (upd H a (.lst xs)) ∧ Adv σ st M H ⟨st.sl.set i (.own (.list ds)), st.g⟩ M (upd H a (.lst xs)) := by
  have hl : i < st.sl.length := (List.getElem?_eq_some_iff.mp e).1
  obtain ⟨ys, es, rfl, e2, e3⟩ := ow.rep
  have hf := (re.mdom a ow.m).2
  have es_ : seen M st.g (upd H a (.lst xs)) = seen M st.g H := seen_upd ow.m
  have al : ∀ b, H b ≠ none → upd H a (.lst xs) b ≠ none := fun b h => by
    by_cases q : b = a
    · subst q
      rw [upd_same]
      simp
    · rw [upd_ne q]
      exact h
  have other : ∀ (j : Nat) (y : Sl), (st.sl.set i (.own (.list ds)))[j]? = some y → (j = i ∧ y = .own (.list ds)) ∨ (j ≠ i ∧ st.sl[j]? = some y) := fun j y h => by
    by_cases q : i = j
    · subst q
      rw [List.getElem?_set_self hl] at h
      cases h
      exact .inl ⟨rfl, rfl⟩
    · rw [List.getElem?_set_ne q] at h
      exact .inr ⟨fun z => q z.symm, h⟩
  refine ⟨⟨by simpa using re.len, R_upd re.R hf, ⟨fun b o h f => ?_, fun b h => al b (re.gr.alive b h)⟩, fun b h => ⟨al b (re.mdom b h).1, (re.mdom b h).2⟩, re.m0, re.m0d, fun j y h => ?_, fun j k y z b h1 h2 h3 h4 => ?_⟩,
    by show Sub (seen M st.g H) (seen M st.g (upd H a (.lst xs))); rw [es_]; exact Sub.refl _, fun b h f => ⟨h, ?_⟩, fun j y h => ?_, al, by simp⟩
  · obtain ⟨k1, k2⟩ := re.gr.keep b o h f
    refine ⟨?_, k2⟩
    rw [upd_ne fun q => by
      subst q
      rw [ow.new] at h
      cases h]
    exact k1
  · rcases other j y h with ⟨rfl, rfl⟩ | ⟨q, h⟩
    · exact ⟨a, ea, ow.m, ow.new, xs, ds, rfl, upd_same, by show RpAll (seen M st.g (upd H a (.lst xs))) xs ds; rw [es_]; exact r⟩
    · have z := re.sl j y h
      cases y with
      | un => exact True.intro
      | val y =>
        obtain ⟨v, z1, z2⟩ := z
        exact ⟨v, z1, by show RepSV (seen M st.g (upd H a (.lst xs))) v y; rw [es_]; exact z2⟩
      | own y =>
        obtain ⟨b, z1, z2⟩ := z
        have nb : b ≠ a := fun w => by
          subst w
          exact q (re.dis j i _ _ b h e z1 ea)
        obtain ⟨zs, ws, y1, y2, y3⟩ := z2.rep
        exact ⟨b, z1, z2.m, z2.new, zs, ws, y1, by rw [upd_ne nb]; exact y2, by show RpAll (seen M st.g (upd H a (.lst xs))) zs ws; rw [es_]; exact y3⟩
  · have o1 : ∃ y', st.sl[j]? = some (Sl.own y') := by
      rcases other j _ h1 with ⟨rfl, _⟩ | ⟨_, h⟩
      · exact ⟨_, e⟩
      · exact ⟨_, h⟩
    have o2 : ∃ y', st.sl[k]? = some (Sl.own y') := by
      rcases other k _ h2 with ⟨rfl, _⟩ | ⟨_, h⟩
      · exact ⟨_, e⟩
      · exact ⟨_, h⟩
    obtain ⟨y', o1⟩ := o1
    obtain ⟨z', o2⟩ := o2
    exact re.dis j k y' z' b o1 o2 h3 h4
  · exact upd_ne fun w => by
      subst w
      exact f i _ e ea
  · rcases other j _ h with ⟨rfl, _⟩ | ⟨_, h⟩
    · exact ⟨_, e⟩
    · exact ⟨y, h⟩

theorem mm_is {m : Mm} {mn : Str} {l : Addr} {xs : List V} (hm : mmTab.lookup mn = some m) (e : H l = some (.lst xs)) :
    ∃ T id, IsMt X mn (V.ref l) H T id (fun v vs H Q => ∃ S l xs ds ys, v = V.ref l ∧ H l = some (.lst xs) ∧ RpAll S xs ds ∧ RpAll S vs ys ∧
      mutW m ds ys fun y ds' => ∀ u xs', Rp S u y → RpAll S xs' ds' → Q u (upd H l (.lst xs'))) := by
  have ty : tyV X.K "list" (V.ref l) H := .inl ⟨rfl, _, SqL.of e⟩
  unfold mmTab at hm
  simp only [List.lookup] at hm
  repeat' split at hm
  all_goals first
    | (cases hm; done)
    | (rename_i h
       have e := eq_of_beq h
       cases hm
       subst e
       first
         | exact ⟨"list", _, F.plainAttrs_list, F.slot_list_append, F.type_list_append, mut_ok .append, ty⟩
         | exact ⟨"list", _, F.plainAttrs_list, F.slot_list_insert, F.type_list_insert, mut_ok .insert, ty⟩
         | exact ⟨"list", _, F.plainAttrs_list, F.slot_list_pop, F.type_list_pop, mut_ok .pop, ty⟩
         | exact ⟨"list", _, F.plainAttrs_list, F.slot_list_reverse, F.type_list_reverse, mut_ok .reverse, ty⟩
         | exact ⟨"list", _, F.plainAttrs_list, F.slot_list_clear, F.type_list_clear, mut_ok .clear, ty⟩)
theorem snd_mut {m : Mm} {mn : Str} {x : Str} {px ap pos : Pos} {i : Nat} {es : List Expr} {irs : Es} (hm : mmTab.lookup mn = some m) (hline : (ap.endLine == pos.line) = true) (hl : es.length < 20)
    (hi : ixOf T.N x = some i) (hv : visC sc x = true) (hd : (x == ("__debug__" : Str)) = false) (hc : (x == ("__classdict__" : Str)) = false) (s : Served Φ T sc es irs) : SndE Φ T sc (.Call (.Attribute (.Name x px) mn ap) es [] pos) (.mut m i irs) := by
  intro X G F st M σ H xq Q tk re h
  obtain ⟨⟨x0, g⟩, h⟩ := (by unfold wpE at h; exact h : (∃ x, st.sl[i]? = some (.own x)) ∧ wpEs Φ irs xq st fun xs st' => ∃ ys ds, dats xs = some ys ∧ st'.sl[i]? = some (.own (.list ds)) ∧ mutW m ds ys fun y ds' => Q (.v (.d y)) ⟨st'.sl.set i (.own (.list ds')), st'.g⟩)
  obtain ⟨a0, ev, ow0⟩ := re.sl i _ g
  obtain ⟨zs0, ws0, ee0, y20, y30⟩ := ow0.rep
  have fin : ∀ {vs : List V} {H2 : Hp}, EsPost F σ st M H (fun xs st' => ∃ ys ds, dats xs = some ys ∧ st'.sl[i]? = some (.own (.list ds)) ∧ mutW m ds ys fun y ds' => Q (.v (.d y)) ⟨st'.sl.set i (.own (.list ds')), st'.g⟩) vs H2 →
      ∃ S l xs ds ys, V.ref a0 = V.ref l ∧ H2 l = some (.lst xs) ∧ RpAll S xs ds ∧ RpAll S vs ys ∧ mutW m ds ys fun y ds' => ∀ u xs', Rp S u y → RpAll S xs' ds' → EPost F σ st M H Q u (upd H2 l (.lst xs')) := by
    rintro vs H2 ⟨xs, st2, M2, ad, re2, rp, ys, ds, e1, e2, k⟩
    obtain ⟨a, ea, ow⟩ := re2.sl i _ e2
    have e0 : a0 = a := by
      rw [ev] at ea
      injection ea with ea
      injection ea with ea
      injection ea
    subst e0
    obtain ⟨zs, ws, ee, y2, y3⟩ := ow.rep
    cases ee
    refine ⟨_, a0, zs, ds, ys, rfl, y2, y3, dats_all e1 rp, mutW_mono k fun y ds' q u xs' ru rx => ?_⟩
    obtain ⟨re3, ad3⟩ := re2.set_own e2 ev rx ow
    refine ⟨.v (.d y), _, M2, ad.trans ad3, re3, ?_, q⟩
    show RepSV (seen M2 st2.g (upd H2 a0 (.lst xs'))) u (.d y)
    rw [seen_upd ow.m]
    exact ru
  -- the list stands there from the start
  obtain ⟨T', id, mt⟩ := mm_is (X := X) hm y20
  cases s with
  | nil =>
    refine PEat.of (pe_bmX0 rfl hline pe_at) ?_
    exact at_name G hi hv hd hc ev ⟨T', id, _, mt, fin (vs := []) ⟨[], st, M, Adv.refl _ _ _ _, re, .nil, h⟩⟩
  | cons s1 s2 s3 s4 =>
    have s := Served.cons s1 s2 s3 s4
    refine PEat.of (pe_bmX rfl hline hl s pe_at pa_at) ?_
    exact at_name G hi hv hd hc ev ⟨T', id, _, mt, (snd_es G tk s re h).mono fun vs H2 z => fin z⟩

/-! ### tests -/
theorem snd_plainT {e : Expr} {ir : E} (hp : plainT e = true) (hE : SndE Φ T sc e ir) (hv : IsVarE T sc e ir) : SndT Φ T sc e ir := by
  intro X G F st M σ H xq K tk re h
  have hw : ∀ whole, isTrue e X.env whole = (do let v ← whole; standAt e.pos; holding [v] (truthy v)) := by
    cases e <;> first
      | (intro _; rfl)
      | cases hp
  refine PTat.of (pt_truth pe_at hw) ?_
  refine (snd_op hE hv G tk re h).mono fun v H1 z => ?_
  obtain ⟨o, st1, M1, ad, re1, rp, x, t, e1, e2, k⟩ := z
  exact ⟨t, truV_of seen_sub (rp.br re1 e1) e2, st1, M1, ad, re1, k⟩
/-- what a test of a comparison, a not, an and, an or says -/
theorem wpT_cmp (hΦ : ∀ f F, Φ f = some F → Mono F) {op : Cop} {ia ib : E} {K : Bool → SS W → Prop} (h : wpT Φ (.cmp op ia ib) xq st K) : opd ia.isVar (wpE Φ ia xq) st fun o1 st1 => opd ib.isVar (wpE Φ ib xq) st1 fun o2 st2 =>
      ∃ x y, o1.get st2 = some x ∧ o2.get st2 = some y ∧ cmpW op x y fun r => K r st2 := by
  unfold wpT at h
  have h : wpE Φ (.cmp op ia ib) xq st fun r st' => ∃ x t, Op.get st' (.now r.sv) = some x ∧ truthD x = some t ∧ K t st' := h
  unfold wpE at h
  exact opd_mono h (fun o1 st1 h => opd_mono h (fun o2 st2 ⟨x, y, e1, e2, k⟩ => ⟨x, y, e1, e2, cmpW_mono k fun r q => by
    obtain ⟨x, t, z1, z2, z3⟩ := q
    cases z1
    cases z2
    exact z3⟩) fun Q Q' => wpE_mono Φ hΦ ib) fun Q Q' => wpE_mono Φ hΦ ia
theorem snd_cmpT {a b : Expr} {ia ib : E} {op : CmpOp} {pos : Pos} (hn : notSet b = true) (ha : SndE Φ T sc a ia) (va : IsVarE T sc a ia) (hb : SndE Φ T sc b ib) (vb : IsVarE T sc b ib) : SndT Φ T sc (.Compare a [op] [b] pos) (.cmp (copOf op) ia ib) := by
  intro X G F st M σ H xq K tk re h
  have h := wpT_cmp (fun f F e => (G.real f F e).1) h
  have hm : behindInMarks (copOf op).op b = false := by
    cases b <;> first
      | rfl
      | cases hn
  have key := pt_cmpR (pos := pos) (cmp_ok (X := X) (by have := G.un; omega) (copOf op)) (pe_at (e := a)) (pe_at (e := b)) hm
  rw [copOf_op] at key
  refine PTat.of key ?_
  refine two_ops (K := fun x y st2 => cmpW (copOf op) x y fun r => K r st2) ha va hb vb G tk re h fun v u st2 M2 H2 x y ad re2 b1 b2 k => ?_
  exact ⟨_, x, y, seen_sub, b1, b2, cmpW_mono k fun r q => ⟨r, rfl, st2, M2, ad, re2, q⟩⟩
theorem snd_notT {a : Expr} {ia : E} {pos : Pos} (ha : SndT Φ T sc a ia) : SndT Φ T sc (.UnaryOp .Not a pos) (.not ia) := by
  intro X G F st M σ H xq K tk re h
  have h : wpE Φ (.not ia) xq st fun r st' => ∃ x t, Op.get st' (.now r.sv) = some x ∧ truthD x = some t ∧ K t st' := h
  unfold wpE at h
  refine PTat.of (pt_not pt_at) ?_
  refine (ha X G F st M σ H xq (fun t st1 => K (!t) st1) tk re ?_).mono fun t H1 z => z
  unfold wpT
  exact opd_mono h (fun o st1 ⟨x, t, e1, e2, x', t', z1, z2, z3⟩ => by
    cases z1
    cases z2
    exact ⟨x, t, e1, e2, z3⟩) fun Q Q' => wpE_mono Φ (fun f F e => (G.real f F e).1) ia
end
end PD
/-! PD9: and, or, chains; what is walked; comprehensions. -/
namespace PD
open PySem L2 PySem.Spec PyProof.Rows
section
variable {W : Wd} {Φ : Tab W} {T : Env_} {X : Cx} {sc : Scope} {F : Frm W} {st : SS W} {M : Addr → Bool} {σ : L2.St} {H : Hp} {xq : XQ W}

/-! ### and, or as tests -/
/-- a test whose value may be let go -/
def wpG (Φ : Tab W) (ir : E) (xq : XQ W) (st : SS W) (K : Bool → SS W → Prop) : Prop := wpE Φ ir xq st fun r s => ∃ t, truthD r.sv = some t ∧ K t s
def SndG (Φ : Tab W) (T : Env_) (sc : Scope) (e : Expr) (ir : E) : Prop := ∀ (X : Cx), Good Φ T X sc → ∀ (F : Frm W) (st : SS W) (M : Addr → Bool) (σ : L2.St) (H : Hp) (xq : XQ W) (K : Bool → SS W → Prop),
  Takes X (XPost F X.mg xq) → Rel F st M σ H → wpG Φ ir xq st K → PTat X e σ H (TPost F σ st M H K)
def SndW (Φ : Tab W) (T : Env_) (sc : Scope) (e : Expr) (ir : E) : Prop := ∀ (X : Cx), Good Φ T X sc → ∀ (F : Frm W) (st : SS W) (M : Addr → Bool) (σ : L2.St) (H : Hp) (xq : XQ W) (K : Bool → SS W → Prop),
  Takes X (XPost F X.mg xq) → Rel F st M σ H → wpG Φ ir xq st K → PWat X e σ H (TPost F σ st M H K)
theorem sndG_plain {e : Expr} {ir : E} (hp : plainT e = true) (hE : SndE Φ T sc e ir) : SndG Φ T sc e ir := by
  intro X G F st M σ H xq K tk re h
  have hw : ∀ whole, isTrue e X.env whole = (do let v ← whole; standAt e.pos; holding [v] (truthy v)) := by
    cases e <;> first
      | (intro _; rfl)
      | cases hp
  refine PTat.of (pt_truth pe_at hw) ?_
  refine (snd_val (K := fun x s => ∃ t, truthD x = some t ∧ K t s) hE G tk re h).mono fun v H1 z => ?_
  obtain ⟨x, st1, M1, ad, re1, rp, t, e2, k⟩ := z
  exact ⟨t, truV_of seen_sub (BR.of rp) e2, st1, M1, ad, re1, k⟩
theorem sndG_of {e : Expr} {ir : E} (hv : ir.isVar = none) (hT : SndT Φ T sc e ir) (hΦ : ∀ f F, Φ f = some F → Mono F) : SndG Φ T sc e ir := by
  intro X G F st M σ H xq K tk re h
  refine hT X G F st M σ H xq K tk re ?_
  unfold wpT opd
  rw [hv]
  exact wpE_mono Φ hΦ ir h fun r s ⟨t, e1, k⟩ => ⟨r.sv, t, rfl, e1, k⟩
theorem sndT_of {e : Expr} {ir : E} (hv : ir.isVar = none) (hG : SndG Φ T sc e ir) (hΦ : ∀ f F, Φ f = some F → Mono F) : SndT Φ T sc e ir := by
  intro X G F st M σ H xq K tk re h
  unfold wpT opd at h
  rw [hv] at h
  exact hG X G F st M σ H xq K tk re (wpE_mono Φ hΦ ir h fun r s ⟨x, t, e0, e1, k⟩ => by
    cases e0
    exact ⟨t, e1, k⟩)
theorem sndG_w {e : Expr} {ir : E} (h : SndW Φ T sc e ir) : SndG Φ T sc e ir := by
  intro X G F st M σ H xq K tk re hw pins s I
  exact h X G F st M σ H xq K tk re hw _ pins s I
theorem sndW_one {a : Expr} {ia : E} {op : BoolOp} {pos : Pos} (ha : SndG Φ T sc a ia) : SndW Φ T sc (.BoolOp op [a] pos) ia := by
  intro X G F st M σ H xq K tk re h
  cases op with
  | And => exact PWat.of (pw_and1 pt_at) (ha X G F st M σ H xq K tk re h)
  | Or => exact PWat.of (pw_or1 pt_at) (ha X G F st M σ H xq K tk re h)
theorem frz_op (re : Rel F st M σ H) (o : Op) : ∃ M', Adv σ st M H (o.frz st) M' H ∧ Rel F (o.frz st) M' σ H := by
  cases o with
  | slot i => exact re.frz i
  | now x => exact ⟨M, Adv.refl _ _ _ _, re⟩
theorem sndW_and {a b : Expr} {rest : List Expr} {ia ib : E} {pos : Pos} (ha : SndT Φ T sc a ia) (hb : SndW Φ T sc (.BoolOp .And (b :: rest) pos) ib) (hΦ : ∀ f F, Φ f = some F → Mono F) : SndW Φ T sc (.BoolOp .And (a :: b :: rest) pos) (.and ia ib) := by
  intro X G F st M σ H xq K tk re h
  unfold wpG wpE at h
  refine PWat.of (pw_and pt_at pw_at) ?_
  refine (ha X G F st M σ H xq (fun t st1 => if t = true then wpG Φ ib xq st1 K else ∃ o : Op, K false (o.frz st1)) tk re ?_).mono fun t H1 z => ?_
  · unfold wpT
    refine opd_mono h (fun o st1 ⟨x, t, e1, e2, z⟩ => ⟨x, t, e1, e2, ?_⟩) fun Q Q' => wpE_mono Φ hΦ ia
    cases t with
    | true =>
      rw [if_pos rfl] at z ⊢
      exact z
    | false =>
      rw [if_neg Bool.false_ne_true] at z ⊢
      obtain ⟨t', e3, k⟩ := z
      have e3 : truthD x = some t' := e3
      rw [e2] at e3
      cases e3
      exact ⟨o, k⟩
  · obtain ⟨st1, M1, ad, re1, q⟩ := z
    cases t with
    | true =>
      rw [if_pos rfl] at q ⊢
      intro wh pins s I
      exact thn (hb X G F st1 M1 σ H1 xq K tk re1 q wh pins s I) fun b s' ⟨H', I', z⟩ => ⟨H', I', z.trans ad⟩
    | false =>
      rw [if_neg Bool.false_ne_true] at q ⊢
      obtain ⟨o, k⟩ := q
      obtain ⟨M2, ad2, re2⟩ := frz_op re1 o
      exact ⟨o.frz st1, M2, ad.trans ad2, re2, k⟩
theorem sndW_or {a b : Expr} {rest : List Expr} {ia ib : E} {pos : Pos} (ha : SndT Φ T sc a ia) (hb : SndW Φ T sc (.BoolOp .Or (b :: rest) pos) ib) (hΦ : ∀ f F, Φ f = some F → Mono F) : SndW Φ T sc (.BoolOp .Or (a :: b :: rest) pos) (.or ia ib) := by
  intro X G F st M σ H xq K tk re h
  unfold wpG wpE at h
  refine PWat.of (pw_or pt_at pw_at) ?_
  refine (ha X G F st M σ H xq (fun t st1 => if t = true then (∃ o : Op, K true (o.frz st1)) else wpG Φ ib xq st1 K) tk re ?_).mono fun t H1 z => ?_
  · unfold wpT
    refine opd_mono h (fun o st1 ⟨x, t, e1, e2, z⟩ => ⟨x, t, e1, e2, ?_⟩) fun Q Q' => wpE_mono Φ hΦ ia
    cases t with
    | true =>
      rw [if_pos rfl] at z ⊢
      obtain ⟨t', e3, k⟩ := z
      have e3 : truthD x = some t' := e3
      rw [e2] at e3
      cases e3
      exact ⟨o, k⟩
    | false =>
      rw [if_neg Bool.false_ne_true] at z ⊢
      exact z
  · obtain ⟨st1, M1, ad, re1, q⟩ := z
    cases t with
    | true =>
      rw [if_pos rfl] at q ⊢
      obtain ⟨o, k⟩ := q
      obtain ⟨M2, ad2, re2⟩ := frz_op re1 o
      exact ⟨o.frz st1, M2, ad.trans ad2, re2, k⟩
    | false =>
      rw [if_neg Bool.false_ne_true] at q ⊢
      intro wh pins s I
      exact thn (hb X G F st1 M1 σ H1 xq K tk re1 q wh pins s I) fun b s' ⟨H', I', z⟩ => ⟨H', I', z.trans ad⟩

/-! ### chains -/
theorem cmp_val (op : Cop) {S : Hp} (re : Rel F st M σ H) {v u : V} {x y : SV} (hx : RepSV (seen M st.g H) v x) (hy : RepSV (seen M st.g H) u y) {K : Bool → Prop} (h : cmpW op x y K) {Q : VK} (q : ∀ b, K b → Q (.bl b) H) :
    In2 v u H fun S x y => cmpW op x y fun r => Q (.bl r) H := ⟨_, x, y, seen_sub, BR.of hx, BR.of hy, cmpW_mono h q⟩
theorem chain_read {a b c : Expr} {ia ib ic : E} {p1 p2 : Cop} (ha : SndE Φ T sc a ia) (hb : SndE Φ T sc b ib) (hc : SndE Φ T sc c ic) (G : Good Φ T X sc) (tk : Takes X (XPost F X.mg xq)) (re : Rel F st M σ H) {K : Bool → SS W → Prop}
    (h : wpE Φ ia xq st fun r1 st1 => wpE Φ ib xq st1 fun r2 st2 => cmpW p1 r1.sv r2.sv fun t => if t = true then wpE Φ ic xq st2 fun r3 st3 => cmpW p2 r2.sv r3.sv fun t' => K t' st3 else K false st2)
    {Q : VK} (q : ∀ t st' M' H', Adv σ st M H st' M' H' → Rel F st' M' σ H' → K t st' → Q (.bl t) H') :
    tChain (fun v u H Q => In2 v u H fun S x y => cmpW p1 x y fun r => Q (.bl r) H) (fun v u H Q => In2 v u H fun S x y => cmpW p2 x y fun r => Q (.bl r) H) (PEat X a) (PEat X b) (PEat X c) σ H Q := by
  refine (snd_val (K := fun x st1 => wpE Φ ib xq st1 fun r2 st2 => cmpW p1 x r2.sv fun t => if t = true then wpE Φ ic xq st2 fun r3 st3 => cmpW p2 r2.sv r3.sv fun t' => K t' st3 else K false st2) ha G tk re h).mono fun v H1 z => ?_
  obtain ⟨x, st1, M1, ad1, re1, rp1, h1⟩ := z
  refine (snd_val (K := fun y st2 => cmpW p1 x y fun t => if t = true then wpE Φ ic xq st2 fun r3 st3 => cmpW p2 y r3.sv fun t' => K t' st3 else K false st2) hb G tk re1 h1).mono fun u H2 z2 => ?_
  obtain ⟨y, st2, M2, ad2, re2, rp2, h2⟩ := z2
  refine ⟨_, x, y, seen_sub, BR.of (rp1.sub ad2.sub), BR.of rp2, cmpW_mono h2 fun t k => ⟨t, rfl, ?_⟩⟩
  cases t with
  | true =>
    rw [if_pos rfl] at k ⊢
    refine (snd_val (K := fun w st3 => cmpW p2 y w fun t' => K t' st3) hc G tk re2 k).mono fun w H3 z3 => ?_
    obtain ⟨w', st3, M3, ad3, re3, rp3, h3⟩ := z3
    exact ⟨_, y, w', seen_sub, BR.of (rp2.sub ad3.sub), BR.of rp3, cmpW_mono h3 fun t' k => q t' st3 M3 H3 ((ad1.trans ad2).trans ad3) re3 k⟩
  | false =>
    rw [if_neg Bool.false_ne_true] at k ⊢
    exact q false st2 M2 H2 (ad1.trans ad2) re2 k
theorem marks_chain {p1 p2 : CmpOp} {b c : Expr} (hn : notSet c = true) : lastMarks [p1, p2] [b, c] = false := by
  show behindInMarks p2 c = false
  cases c <;> first
    | rfl
    | cases hn
theorem snd_chain {a b c : Expr} {ia ib ic : E} {p1 p2 : CmpOp} {pos : Pos} (hn : notSet c = true) (ha : SndE Φ T sc a ia) (hb : SndE Φ T sc b ib) (hc : SndE Φ T sc c ic) : SndE Φ T sc (.Compare a [p1, p2] [b, c] pos) (.chain (copOf p1) (copOf p2) ia ib ic) := by
  intro X G F st M σ H xq Q tk re h
  unfold wpE at h
  have hu : X.A.units + 65 < cLine := by have := G.un; omega
  have key := pe_chain (pos := pos) (cmp_ok (X := X) hu (copOf p1)) (cmp_ok (X := X) hu (copOf p2)) (pe_at (e := a)) (pe_at (e := b)) (pe_at (e := c)) (by rw [copOf_op, copOf_op]; exact marks_chain hn)
  rw [copOf_op, copOf_op] at key
  exact PEat.of key (chain_read (K := fun t s => Q (.v (.d (.bool t))) s) ha hb hc G tk re h fun t st' M' H' ad re' k => EPost.trans ad (Out.post re' (.same (x := .d (.bool t)) (.bl t)) k))
theorem snd_chainT {a b c : Expr} {ia ib ic : E} {p1 p2 : CmpOp} {pos : Pos} (hn : notSet c = true) (ha : SndE Φ T sc a ia) (hb : SndE Φ T sc b ib) (hc : SndE Φ T sc c ic) : SndT Φ T sc (.Compare a [p1, p2] [b, c] pos) (.chain (copOf p1) (copOf p2) ia ib ic) := by
  intro X G F st M σ H xq K tk re h
  have h : wpE Φ (.chain (copOf p1) (copOf p2) ia ib ic) xq st fun r st' => ∃ x t, Op.get st' (.now r.sv) = some x ∧ truthD x = some t ∧ K t st' := h
  unfold wpE at h
  have hu : X.A.units + 65 < cLine := by have := G.un; omega
  have key := pt_chain (pos := pos) (cmp_ok (X := X) hu (copOf p1)) (cmp_ok (X := X) hu (copOf p2)) (pe_at (e := a)) (pe_at (e := b)) (pe_at (e := c)) (by rw [copOf_op, copOf_op]; exact marks_chain hn)
  rw [copOf_op, copOf_op] at key
  refine PTat.of key (chain_read (K := fun t s => ∃ x t', Op.get s (.now (Rs.v (.d (.bool t))).sv) = some x ∧ truthD x = some t' ∧ K t' s) ha hb hc G tk re h fun t st' M' H' ad re' k => ⟨t, rfl, st', M', ad, re', ?_⟩)
  obtain ⟨x, t', e1, e2, k⟩ := k
  cases e1
  cases e2
  exact k

/-! ### what is walked -/
def PIat (X : Cx) (tg e : Expr) : TI := fun σ H R => ∀ (pins : List (Addr × Obj)) (s : Shared), Inv X pins σ H s →
  wpAny (model X.prog X.w) X.A (eval e X.env) (fun v s1 => wpAny (model X.prog X.w) X.A (pyIter v) (PIE X pins σ tg R) X.xe s1) X.xe s
theorem pi_at {tg e : Expr} : PI X tg e (PIat X tg e) := ⟨fun pins s σ H R I h => h pins s I⟩
theorem PIat.of {tg e : Expr} {t : TI} (h : PI X tg e t) {R : It → Hp → Prop} (q : t σ H R) : PIat X tg e σ H R := fun pins s I => h.run pins s σ H R I q
theorem PIat.mono {tg e : Expr} {R R' : It → Hp → Prop} (h : PIat X tg e σ H R) (q : ∀ J H', R J H' → R' J H') : PIat X tg e σ H R' := fun pins s I =>
  thn (h pins s I) fun v s1 h1 => thn h1 fun itv s2 ⟨it, fp, tn, J, H', e, I2, T', st2, f2, z⟩ => ⟨it, fp, tn, J, H', e, I2, T', st2, f2, q _ _ z⟩
/-- a list, a tuple, a text -/
def tSeq (te : TE) : TI := fun σ H R => te σ H fun v H1 => (∃ a xs, v = V.ref a ∧ H1 a = some (.lst xs) ∧ R (Itl X.K a) H1) ∨ (∃ a xs, v = V.ref a ∧ H1 a = some (.tup xs) ∧ R (Itt X.K a) H1) ∨ ∃ z, v = V.str z ∧ R (Its z) H1
theorem pi_seq {tg e : Expr} {te : TE} (he : PE X e te) : PI X tg e (tSeq (X := X) te) := by
  refine ⟨fun pins s σ H R I h => ?_⟩
  refine thn (he.run pins s σ H _ I h) ?_
  rintro v s1 ⟨y, H1, I1, r1, (⟨a, xs, rfl, ha, q⟩ | ⟨a, xs, rfl, ha, q⟩ | ⟨z, rfl, q⟩)⟩
  · cases r1
    obtain ⟨its, rv, p, hz⟩ := I1.list (SqL.of ha)
    exact wpAny_pyIter_list p.isList (pi_one (tk := s1.toks) I1 _ (turn_list a _) ⟨_, Heap.get?_push_size _ rfl, rfl, rfl⟩ q)
  · cases r1
    obtain ⟨its, rv, p, hz⟩ := I1.tuple (SqT.of ha)
    exact wpAny_pyIter_tuple (show s1.heap.IsTuple a its.toArray from p) (pi_one (tk := s1.toks) I1 _ (turn_tuple a _) ⟨_, Heap.get?_push_size _ rfl, rfl, rfl⟩ q)
  · obtain ⟨t, rfl⟩ := r1
    cases ha : z.cps.all (· < 128)
    · exact wpAny_pyIter_wide ha (pi_one (tk := s1.toks) I1 _ (turn_str _ z t "str_iterator" (.inr rfl)) ⟨_, Heap.get?_push_size _ rfl, rfl, rfl⟩ q)
    · exact wpAny_pyIter_ascii ha (pi_one (tk := s1.toks) I1 _ (turn_str _ z t "str_ascii_iterator" (.inl rfl)) ⟨_, Heap.get?_push_size _ rfl, rfl, rfl⟩ q)

/-- what an iterator gives: the items, as long as its sources stand as they were -/
def WalkD (srcs : List (V × SV)) (J : It) (items : List D) : Prop := ∀ (S H : Hp), Sub S H → (∀ p ∈ srcs, BR S H p.1 p.2) →
  J.stop items.length H ∧ ∀ (i : Nat) (d : D), items[i]? = some d → J.go i H ∧ ∀ v H', J.yld i H v H' → Out S H (.v (.d d)) v H'
inductive SrcsRep (σ : L2.St) (st : SS W) (S : Hp) : List (V × SV) → List Op → Prop
  | nil : SrcsRep σ st S [] []
  | cons {v : V} {x : SV} {o : Op} {ps : List (V × SV)} {os : List Op} : OpRep σ S v o → o.get st = some x → SrcsRep σ st S ps os → SrcsRep σ st S ((v, x) :: ps) (o :: os)
theorem SrcsRep.sub {S S' : Hp} (s : Sub S S') : ∀ {ps : List (V × SV)} {os : List Op}, SrcsRep σ st S ps os → SrcsRep σ st S' ps os
  | _, _, .nil => .nil
  | _, _, .cons h e t => .cons (h.sub s) e (SrcsRep.sub s t)
def IPost (F : Frm W) (σ : L2.St) (st : SS W) (M : Addr → Bool) (H : Hp) (K : List D → List Nat → SS W → Prop) : It → Hp → Prop := fun J H' =>
  ∃ items srcs os st' M', Adv σ st M H st' M' H' ∧ Rel F st' M' σ H' ∧ SrcsRep σ st' (seen M' st'.g H') srcs os ∧ WalkD srcs J items ∧ K items (opsIx os) st'
def SndI (Φ : Tab W) (T : Env_) (sc : Scope) (e : Expr) (it : Itr) : Prop := ∀ (X : Cx), Good Φ T X sc → ∀ (tg : Expr) (F : Frm W) (st : SS W) (M : Addr → Bool) (σ : L2.St) (H : Hp) (xq : XQ W) (K : List D → List Nat → SS W → Prop),
  Takes X (XPost F X.mg xq) → Rel F st M σ H → wpI Φ it xq st K → PIat X tg e σ H (IPost F σ st M H K)

theorem seqD_walk {K : PySem.W.Frag} {S : Hp} {v : V} {x : SV} {items : List D} (sb : Sub S H) (b : BR S H v x) (e : seqD x = some items) :
    (∃ a xs, v = V.ref a ∧ H a = some (.lst xs) ∧ WalkD [(v, x)] (Itl K a) items) ∨ (∃ a xs, v = V.ref a ∧ H a = some (.tup xs) ∧ WalkD [(v, x)] (Itt K a) items) ∨ ∃ z, v = V.str z ∧ WalkD [(v, x)] (Its z) items := by
  unfold seqD at e
  split at e
  · cases e
    obtain ⟨a, xs, rfl, ha, ra⟩ := b.list sb
    refine .inl ⟨a, xs, rfl, ha, fun S' H' sb' hb => ?_⟩
    obtain ⟨a', xs', e', ha', ra'⟩ := (hb _ List.mem_cons_self).list sb'
    injection e' with e'
    subst e'
    have w := walk_list (K := K) (a := a) (xs := xs')
    refine ⟨by rw [← ra'.length]; exact w.stops _ (SqL.of ha'), fun i d hd => ?_⟩
    obtain ⟨u, hu, ru⟩ := ra'.get hd
    have hi : i < xs'.length := (List.getElem?_eq_some_iff.mp hu).1
    refine ⟨w.goes i _ hi (SqL.of ha'), fun v H'' y => ?_⟩
    obtain ⟨e1, e2⟩ := w.yields i _ _ _ hi (SqL.of ha') y
    rw [hu] at e2
    cases e2
    subst e1
    exact .same ru
  · cases e
    obtain ⟨a, xs, rfl, _, ha, ra⟩ := b.tuple sb
    refine .inr (.inl ⟨a, xs, rfl, ha, fun S' H' sb' hb => ?_⟩)
    obtain ⟨a', xs', e', _, ha', ra'⟩ := (hb _ List.mem_cons_self).tuple sb'
    injection e' with e'
    subst e'
    have w := walk_tup (K := K) (a := a) (xs := xs')
    refine ⟨by rw [← ra'.length]; exact w.stops _ (SqT.of ha'), fun i d hd => ?_⟩
    obtain ⟨u, hu, ru⟩ := ra'.get hd
    have hi : i < xs'.length := (List.getElem?_eq_some_iff.mp hu).1
    refine ⟨w.goes i _ hi (SqT.of ha'), fun v H'' y => ?_⟩
    obtain ⟨e1, e2⟩ := w.yields i _ _ _ hi (SqT.of ha') y
    rw [hu] at e2
    cases e2
    subst e1
    exact .same ru
  · rename_i z
    cases e
    cases b.str
    refine .inr (.inr ⟨z, rfl, fun S' H' sb' hb => ?_⟩)
    have w := walk_str (z := z)
    have hl : (z.cps.toList.map fun c => PyData.str ⟨#[c]⟩).length = z.cps.size := by simp
    refine ⟨by rw [hl]; exact w.stops _ True.intro, fun i d hd => ?_⟩
    have hi : i < z.cps.size := by
      have := (List.getElem?_eq_some_iff.mp hd).1
      rw [hl] at this
      exact this
    refine ⟨w.goes i _ hi True.intro, fun v H'' y => ?_⟩
    obtain ⟨e1, c, hc, e2⟩ := w.yields i _ _ _ hi True.intro y
    subst e1
    subst e2
    rw [List.getElem?_map, Array.getElem?_toList, hc] at hd
    cases hd
    exact .same (Rp.str _)
  · cases e
theorem snd_seq {e : Expr} {ir : E} (hE : SndE Φ T sc e ir) (hv : IsVarE T sc e ir) : SndI Φ T sc e (.seq ir) := by
  intro X G tg F st M σ H xq K tk re h
  unfold wpI at h
  refine PIat.of (pi_seq pe_at) ?_
  refine (snd_op hE hv G tk re h).mono fun v H1 z => ?_
  obtain ⟨o, st1, M1, ad, re1, rp, x, xs, e1, e2, k⟩ := z
  rcases seqD_walk (K := X.K) seen_sub (rp.br re1 e1) e2 with ⟨a, ys, rfl, ha, w⟩ | ⟨a, ys, rfl, ha, w⟩ | ⟨z, rfl, w⟩
  · exact .inl ⟨a, ys, rfl, ha, xs, _, [o], st1, M1, ad, re1, .cons rp e1 .nil, w, k⟩
  · exact .inr (.inl ⟨a, ys, rfl, ha, xs, _, [o], st1, M1, ad, re1, .cons rp e1 .nil, w, k⟩)
  · exact .inr (.inr ⟨z, rfl, xs, _, [o], st1, M1, ad, re1, .cons rp e1 .nil, w, k⟩)
theorem rng_walk (lo : Int) (n : Nat) : WalkD [] (L2.Itr lo n) (rngI lo n) := by
  intro S H sb _
  have hl : (rngI lo n).length = n := by simp [rngI]
  refine ⟨by rw [hl]; exact Nat.le_refl n, fun i d hd => ?_⟩
  have hi : i < n := by
    have := (List.getElem?_eq_some_iff.mp hd).1
    rw [hl] at this
    exact this
  refine ⟨hi, fun v H' y => ?_⟩
  obtain ⟨e1, e2⟩ := y
  subst e1
  subst e2
  have e3 : (rngI lo n)[i]? = some (.int (lo + (i : Int))) := by
    unfold rngI
    rw [List.getElem?_map, List.getElem?_range hi]
    rfl
  rw [e3] at hd
  cases hd
  exact .same (Rp.int _)
theorem rngC_walk (lo c : Int) (n : Nat) : WalkD [] (Itc lo c n) (rngC lo c n) := by
  intro S H sb _
  have hl : (rngC lo c n).length = n := by simp [rngC]
  refine ⟨by rw [hl]; exact Nat.le_refl n, fun i d hd => ?_⟩
  have hi : i < n := by
    have := (List.getElem?_eq_some_iff.mp hd).1
    rw [hl] at this
    exact this
  refine ⟨hi, fun v H' y => ?_⟩
  obtain ⟨e1, e2⟩ := y
  subst e1
  subst e2
  have e3 : (rngC lo c n)[i]? = some (.int (lo + (i : Int) * c)) := by
    unfold rngC
    rw [List.getElem?_map, List.getElem?_range hi]
    rfl
  rw [e3] at hd
  cases hd
  exact .same (Rp.int _)
theorem star_one {a : Expr} {env : PySem.Env} (h : notStar a = true) : starEach [a] env = [(false, eval a env)] := star_cons [] env h
theorem snd_rng1 {a : Expr} {ia : E} {p pos : Pos} (hg : glC sc "range" = true) (hn : notStar a = true) (ha : SndE Φ T sc a ia) : SndI Φ T sc (.Call (.Name "range" p) [a] [] pos) (.rng1 ia) := by
  intro X G tg F st M σ H xq K tk re h
  unfold wpI at h
  refine PIat.of (pi_range1 (G.gl hg) (G.bl _ (by decide)) (pa_cons pe_at pa_nil (star_cons _ _ hn)) (star_one hn)) ?_
  refine (snd_val (K := fun x st1 => ∃ j : Int, x = .d (.int j) ∧ (-(2 ^ 62) ≤ j ∧ j < 2 ^ 62) ∧ K (rngI 0 j.toNat) [] st1) ha G tk re h).mono fun v H1 z => ?_
  obtain ⟨x, st1, M1, ad, re1, rp, j, rfl, hj, k⟩ := z
  cases rp
  exact ⟨j, rfl, hj.1, hj.2, rngI 0 j.toNat, [], [], st1, M1, ad, re1, .nil, rng_walk 0 j.toNat, k⟩
theorem snd_rng2 {a b : Expr} {ia ib : E} {p pos : Pos} (hg : glC sc "range" = true) (hn : notStar a = true) (hn2 : notStar b = true) (ha : SndE Φ T sc a ia) (hb : SndE Φ T sc b ib) : SndI Φ T sc (.Call (.Name "range" p) [a, b] [] pos) (.rng2 ia ib) := by
  intro X G tg F st M σ H xq K tk re h
  unfold wpI at h
  refine PIat.of (pi_range2 (G.gl hg) (G.bl _ (by decide)) (pa_cons pe_at (pa_cons pe_at pa_nil (star_cons _ _ hn2)) (star_cons _ _ hn)) (by rw [star_cons _ _ hn, star_cons _ _ hn2]; rfl) (star_one hn2)) ?_
  refine (snd_val (K := fun x st1 => wpE Φ ib xq st1 fun r2 st2 => ∃ i j : Int, x = .d (.int i) ∧ r2.sv = .d (.int j) ∧ (-(2 ^ 62) ≤ i ∧ i < 2 ^ 62 ∧ -(2 ^ 62) ≤ j ∧ j < 2 ^ 62) ∧ K (rngI i (j - i).toNat) [] st2) ha G tk re h).mono fun v H1 z => ?_
  obtain ⟨x, st1, M1, ad, re1, rp, h1⟩ := z
  refine (snd_val (K := fun y st2 => ∃ i j : Int, x = .d (.int i) ∧ y = .d (.int j) ∧ (-(2 ^ 62) ≤ i ∧ i < 2 ^ 62 ∧ -(2 ^ 62) ≤ j ∧ j < 2 ^ 62) ∧ K (rngI i (j - i).toNat) [] st2) hb G tk re1 h1).mono fun u H2 z => ?_
  obtain ⟨y, st2, M2, ad2, re2, rp2, i, j, rfl, rfl, hj, k⟩ := z
  cases rp
  cases rp2
  exact ⟨i, j, rfl, hj, rngI i (j - i).toNat, [], [], st2, M2, ad.trans ad2, re2, .nil, rng_walk i _, k⟩
theorem snd_rng3 {a b c : Expr} {ia ib ic : E} {p pos : Pos} (hg : glC sc "range" = true) (hn : notStar a = true) (hn2 : notStar b = true) (hn3 : notStar c = true) (ha : SndE Φ T sc a ia) (hb : SndE Φ T sc b ib) (hc : SndE Φ T sc c ic) : SndI Φ T sc (.Call (.Name "range" p) [a, b, c] [] pos) (.rng3 ia ib ic) := by
  intro X G tg F st M σ H xq K tk re h
  unfold wpI at h
  have hp : (backTo pos (starEach [b, c] X.env)).any (·.1) = false := by
    rw [star_cons _ _ hn2, star_cons _ _ hn3]
    rfl
  refine PIat.of (pi_range3 (G.gl hg) (G.bl _ (by decide)) (pa_cons pe_at (pa_cons pe_at (pa_cons pe_at pa_nil (star_cons _ _ hn3)) (star_cons _ _ hn2)) (star_cons _ _ hn)) (star_cons _ _ hn) hp) ?_
  refine (snd_val (K := fun x st1 => wpE Φ ib xq st1 fun r2 st2 => wpE Φ ic xq st2 fun r3 st3 => ∃ (i j k : Int) (n : Nat), (x = .d (.int i) ∧ r2.sv = .d (.int j) ∧ r3.sv = .d (.int k)) ∧ RgC i j k n ∧ K (rngC i k n) [] st3) ha G tk re h).mono fun v H1 z => ?_
  obtain ⟨x, st1, M1, ad, re1, rp, h1⟩ := z
  refine (snd_val (K := fun y st2 => wpE Φ ic xq st2 fun r3 st3 => ∃ (i j k : Int) (n : Nat), (x = .d (.int i) ∧ y = .d (.int j) ∧ r3.sv = .d (.int k)) ∧ RgC i j k n ∧ K (rngC i k n) [] st3) hb G tk re1 h1).mono fun u H2 z => ?_
  obtain ⟨y, st2, M2, ad2, re2, rp2, h2⟩ := z
  refine (snd_val (K := fun w st3 => ∃ (i j k : Int) (n : Nat), (x = .d (.int i) ∧ y = .d (.int j) ∧ w = .d (.int k)) ∧ RgC i j k n ∧ K (rngC i k n) [] st3) hc G tk re2 h2).mono fun u H3 z => ?_
  obtain ⟨w, st3, M3, ad3, re3, rp3, i, j, k, n, ⟨rfl, rfl, rfl⟩, hr, kk⟩ := z
  cases rp
  cases rp2
  cases rp3
  exact ⟨i, j, k, n, rfl, hr, rngC i k n, [], [], st3, M3, (ad.trans ad2).trans ad3, re3, .nil, rngC_walk i k n, kk⟩
end
end PD
/-! PD10: targets; comprehensions. -/
namespace PD
open PySem L2 PySem.Spec PyProof.Rows
section
variable {W : Wd} {Φ : Tab W} {T : Env_} {X : Cx} {sc : Scope} {F : Frm W} {st : SS W} {M : Addr → Bool} {σ : L2.St} {H : Hp} {xq : XQ W}

/-! ### states whose slots are written -/
theorem set_get {α : Type} {l : List α} {i j : Nat} {x y : α} (h : (l.set i x)[j]? = some y) : (j = i ∧ y = x) ∨ (j ≠ i ∧ l[j]? = some y) := by
  by_cases q : i = j
  · subst q
    have hl : i < l.length := by
      have := (List.getElem?_eq_some_iff.mp h).1
      simpa using this
    rw [List.getElem?_set_self hl] at h
    cases h
    exact .inl ⟨rfl, rfl⟩
  · rw [List.getElem?_set_ne q] at h
    exact .inr ⟨fun e => q e.symm, h⟩
theorem set_at {α : Type} {l : List α} {i : Nat} {x : α} (h : i < l.length) : (l.set i x)[i]? = some x := List.getElem?_set_self h
theorem Rel.put {Hs : Hp} (re : Rel F st M σ H) {v : V} {r : Rs} (rp : RepRs F Hs st M σ H v r) (i : Nat) : Rel F (st.put i r) M (σ.set i (some v)) H := by
  refine ⟨by simpa [SS.put] using re.len, re.R, re.gr, re.mdom, re.m0, re.m0d, fun j y h => ?_, fun j k y z b h1 h2 h3 h4 => ?_⟩
  · have h : (st.sl.set i r.sl)[j]? = some y := h
    have hj := (List.getElem?_eq_some_iff.mp h).1
    rcases set_get h with ⟨rfl, rfl⟩ | ⟨n, h⟩
    · have hs : (σ.set j (some v))[j]? = some (some v) := set_at (by rw [← re.len]; simpa using hj)
      cases r with
      | v x => exact ⟨v, hs, rp⟩
      | f x =>
        obtain ⟨a, rfl, _, ow, _⟩ := rp
        exact ⟨a, hs, ow⟩
    · have z := re.sl j y h
      have e : (σ.set i (some v))[j]? = σ[j]? := List.getElem?_set_ne fun q => n q.symm
      cases y with
      | un => exact True.intro
      | val y => obtain ⟨u, z1, z2⟩ := z; exact ⟨u, e.trans z1, z2⟩
      | own y => obtain ⟨u, z1, z2⟩ := z; exact ⟨u, e.trans z1, z2⟩
  · have h1 : (st.sl.set i r.sl)[j]? = some (.own y) := h1
    have h2 : (st.sl.set i r.sl)[k]? = some (.own z) := h2
    have hj := (List.getElem?_eq_some_iff.mp h1).1
    have hk := (List.getElem?_eq_some_iff.mp h2).1
    rcases set_get h1 with ⟨rfl, e1⟩ | ⟨n1, k1⟩ <;> rcases set_get h2 with ⟨rfl, e2⟩ | ⟨n2, k2⟩
    · rfl
    · exfalso
      rw [set_at (by rw [← re.len]; simpa using hj)] at h3
      rw [List.getElem?_set_ne fun q => n2 q.symm] at h4
      cases r with
      | v x => cases e1
      | f x =>
        obtain ⟨a, rfl, _, ow, fr⟩ := rp
        cases h3
        exact fr _ _ k2 h4
    · exfalso
      rw [set_at (by rw [← re.len]; simpa using hk)] at h4
      rw [List.getElem?_set_ne fun q => n1 q.symm] at h3
      cases r with
      | v x => cases e2
      | f x =>
        obtain ⟨a, rfl, _, ow, fr⟩ := rp
        cases h4
        exact fr _ _ k1 h3
    · rw [List.getElem?_set_ne fun q => n1 q.symm] at h3
      rw [List.getElem?_set_ne fun q => n2 q.symm] at h4
      exact re.dis j k y z b k1 k2 h3 h4
theorem Rel.setv (re : Rel F st M σ H) {v : V} {x : SV} (rp : RepSV (seen M st.g H) v x) (i : Nat) : Rel F ⟨st.sl.set i (.val x), st.g⟩ M (σ.set i (some v)) H := Rel.put (r := .v x) (Hs := H) re rp i
theorem Rel.un1 (re : Rel F st M σ H) (i : Nat) : Rel F ⟨st.sl.set i .un, st.g⟩ M (σ.set i none) H := by
  refine ⟨by simpa using re.len, re.R, re.gr, re.mdom, re.m0, re.m0d, fun j y h => ?_, fun j k y z b h1 h2 h3 h4 => ?_⟩
  · have h : (st.sl.set i .un)[j]? = some y := h
    rcases set_get h with ⟨rfl, rfl⟩ | ⟨n, h⟩
    · exact True.intro
    · have z := re.sl j y h
      have e : (σ.set i none)[j]? = σ[j]? := List.getElem?_set_ne fun q => n q.symm
      cases y with
      | un => exact True.intro
      | val y => obtain ⟨u, z1, z2⟩ := z; exact ⟨u, e.trans z1, z2⟩
      | own y => obtain ⟨u, z1, z2⟩ := z; exact ⟨u, e.trans z1, z2⟩
  · rcases set_get h1 with ⟨_, e⟩ | ⟨n1, h1⟩
    · cases e
    · rcases set_get h2 with ⟨_, e⟩ | ⟨n2, h2⟩
      · cases e
      · rw [List.getElem?_set_ne fun q => n1 q.symm] at h3
        rw [List.getElem?_set_ne fun q => n2 q.symm] at h4
        exact re.dis j k y z b h1 h2 h3 h4
theorem Rel.unset (re : Rel F st M σ H) : ∀ vs : List Nat, Rel F ⟨unset vs st.sl, st.g⟩ M (wipe σ vs) H
  | [] => re
  | i :: r => (Rel.unset re r).un1 i
theorem Rel.upd_free (re : Rel F st M σ H) {a : Addr} {o : HO} (hm : M a = true) (hn : F.H0 a = none) (hf : Free st σ a) : Rel F st M σ (upd H a o) := by
  have q := re.mdom a hm
  refine ⟨re.len, R_upd re.R q.2, ⟨fun b u e f => ?_, fun b h => ?_⟩, fun b hb => ⟨?_, (re.mdom b hb).2⟩, re.m0, re.m0d, fun i y h => ?_, re.dis⟩
  · obtain ⟨h1, h2⟩ := re.gr.keep b u e f
    refine ⟨?_, h2⟩
    rw [upd_ne fun z => ?_]
    · exact h1
    · subst z; rw [hn] at e; cases e
  · by_cases z : b = a
    · subst z; rw [upd_same]; simp
    · rw [upd_ne z]; exact re.gr.alive b h
  · by_cases z : b = a
    · subst z; rw [upd_same]; simp
    · rw [upd_ne z]; exact (re.mdom b hb).1
  · have z := re.sl i y h
    cases y with
    | un => exact True.intro
    | val y =>
      obtain ⟨u, z1, z2⟩ := z
      refine ⟨u, z1, ?_⟩
      rw [seen_upd hm]
      exact z2
    | own y =>
      obtain ⟨b, z1, z2⟩ := z
      refine ⟨b, z1, z2.m, z2.new, ?_⟩
      obtain ⟨xs, ds, y1, y2, y3⟩ := z2.rep
      refine ⟨xs, ds, y1, ?_, by rw [seen_upd hm]; exact y3⟩
      rw [upd_ne fun e => ?_]
      · exact y2
      · subst e
        exact hf i y h z1
theorem unset_len (sl : List Sl) : ∀ vs : List Nat, (unset vs sl).length = sl.length
  | [] => rfl
  | i :: r => by unfold unset; rw [List.length_set, unset_len sl r]
theorem unset_get {sl : List Sl} {j : Nat} {y : Sl} : ∀ {vs : List Nat}, (unset vs sl)[j]? = some y → (j ∈ vs ∧ y = .un) ∨ (j ∉ vs ∧ sl[j]? = some y)
  | [], h => .inr ⟨by simp, h⟩
  | i :: r, h => by
    unfold unset at h
    rcases set_get h with ⟨rfl, rfl⟩ | ⟨n, h⟩
    · exact .inl ⟨List.mem_cons_self, rfl⟩
    · rcases unset_get h with ⟨h1, h2⟩ | ⟨h1, h2⟩
      · exact .inl ⟨List.mem_cons_of_mem _ h1, h2⟩
      · exact .inr ⟨by simp only [List.mem_cons, not_or]; exact ⟨n, h1⟩, h2⟩
theorem unset_out {sl : List Sl} {j : Nat} : ∀ {vs : List Nat}, j ∉ vs → (unset vs sl)[j]? = sl[j]?
  | [], _ => rfl
  | i :: r, h => by
    simp only [List.mem_cons, not_or] at h
    unfold unset
    rw [List.getElem?_set_ne fun e => h.1 e.symm]
    exact unset_out h.2
theorem wipe_out {σ : L2.St} {j : Nat} : ∀ {vs : List Nat}, j ∉ vs → (wipe σ vs)[j]? = σ[j]?
  | [], _ => rfl
  | i :: r, h => by
    simp only [List.mem_cons, not_or] at h
    unfold wipe
    rw [List.getElem?_set_ne fun e => h.1 e.symm]
    exact wipe_out h.2
theorem back_len (sl now : List Sl) : ∀ vs : List Nat, (back vs sl now).length = now.length
  | [] => rfl
  | i :: r => by unfold back; rw [List.length_set, back_len sl now r]
theorem back_get {sl now : List Sl} {j : Nat} {y : Sl} : ∀ {vs : List Nat}, (back vs sl now)[j]? = some y → (j ∈ vs ∧ y = sl.getD j .un) ∨ (j ∉ vs ∧ now[j]? = some y)
  | [], h => .inr ⟨by simp, h⟩
  | i :: r, h => by
    unfold back at h
    rcases set_get h with ⟨rfl, rfl⟩ | ⟨n, h⟩
    · exact .inl ⟨List.mem_cons_self, rfl⟩
    · rcases back_get h with ⟨h1, h2⟩ | ⟨h1, h2⟩
      · exact .inl ⟨List.mem_cons_of_mem _ h1, h2⟩
      · exact .inr ⟨by simp only [List.mem_cons, not_or]; exact ⟨n, h1⟩, h2⟩
theorem frz_notown {st : SS W} {i j : Nat} {y : D} (h : (st.frz i).sl[j]? = some (.own y)) : j ≠ i ∧ st.sl[j]? = some (.own y) := by
  unfold SS.frz at h
  split at h
  · rename_i x e
    have h : (st.sl.set i (.val (.d x)))[j]? = some (.own y) := h
    rcases set_get h with ⟨rfl, q⟩ | ⟨n, h⟩
    · cases q
    · exact ⟨n, h⟩
  · rename_i n
    refine ⟨fun e => ?_, h⟩
    subst e
    exact n y h
theorem frzs_notown : ∀ {vs : List Nat} {st : SS W} {j : Nat} {y : D}, (st.frzs vs).sl[j]? = some (.own y) → j ∉ vs ∧ st.sl[j]? = some (.own y)
  | [], st, j, y, h => ⟨by simp, h⟩
  | i :: r, st, j, y, h => by
    obtain ⟨h1, h2⟩ := frzs_notown (vs := r) (st := st.frz i) h
    obtain ⟨h3, h4⟩ := frz_notown h2
    exact ⟨by simp only [List.mem_cons, not_or]; exact ⟨h3, h1⟩, h4⟩
theorem frzs_get : ∀ (vs : List Nat) (st : SS W) (j : Nat), (st.frzs vs).get j = st.get j
  | [], _, _ => rfl
  | i :: r, st, j => (frzs_get r (st.frz i) j).trans (frz_get st i j)

/-! ### targets -/
def Sto (X : Cx) (sto : Str → Bool) : Prop := ∀ x, sto x = true → Loc X.env.scope x ∧ (X.fn x = true ∨ X.env.scope.names.lookup x = some .local)
def PGat (X : Cx) (tg : Expr) : TG := fun v σ H Q => ∀ (pins : List (Addr × Obj)) (s : Shared) (u : Value), Inv X pins σ H s → RelV v u →
  wpAny (model X.prog X.w) X.A (assign tg X.env u) (fun _ s' => ∃ σ' H', Inv X pins σ' H' s' ∧ Q σ' H') X.xe s
theorem pg_at {tg : Expr} : PG X tg (PGat X tg) := ⟨fun pins s σ H v u Q I r h => h pins s u I r⟩
theorem PGat.of {tg : Expr} {t : TG} (h : PG X tg t) {v : V} {σ : L2.St} {H : Hp} {Q : L2.St → Hp → Prop} (q : t v σ H Q) : PGat X tg v σ H Q := fun pins s u I r => h.run pins s σ H v u Q I r q
def PGsat (X : Cx) (ts : List Expr) : TGs := fun vs σ H Q => ∀ (pins : List (Addr × Obj)) (s : Shared) (us : List Value), Inv X pins σ H s → Vals vs us →
  wpAny (model X.prog X.w) X.A (assignInOrder ((assignEach ts X.env).map (·.2)) us) (fun _ s' => ∃ σ' H', Inv X pins σ' H' s' ∧ Q σ' H') X.xe s
theorem pgs_at {tg : List Expr} : PGs X tg (PGsat X tg) := ⟨fun pins s σ H v u Q I r h => h pins s u I r⟩
theorem PGsat.of {tg : List Expr} {t : TGs} (h : PGs X tg t) {v : List V} {σ : L2.St} {H : Hp} {Q : L2.St → Hp → Prop} (q : t v σ H Q) : PGsat X tg v σ H Q := fun pins s u I r => h.run pins s σ H v u Q I r q
/-- behind a binding -/
def GPost (F : Frm W) (sto : Str → Bool) (N : List Str) (sl sl' : List Sl) (g : W.T) (M : Addr → Bool) (σ : L2.St) (H : Hp) : L2.St → Hp → Prop := fun σ2 H2 =>
  H2 = H ∧ Rel F ⟨sl', g⟩ M σ2 H ∧ (∀ j : Nat, (∀ x, sto x = true → ixOf N x ≠ some j) → σ2[j]? = σ[j]? ∧ sl'[j]? = sl[j]?) ∧ sl'.length = sl.length ∧ ∀ (j : Nat) (y : D), sl'[j]? = some (.own y) → sl[j]? = some (.own y) ∧ σ2[j]? = σ[j]?
def notStarG : Expr → Bool
  | .Starred .. => false
  | _ => true
theorem assign_cons {e : Expr} (es : List Expr) (env : PySem.Env) (h : notStar e = true) : assignEach (e :: es) env = (false, assign e env) :: assignEach es env := by
  cases e <;> first
    | rfl
    | cases h
theorem each_ok (env : PySem.Env) : ∀ {es : List Expr}, noStarT es = true → (assignEach es env).length = es.length ∧ (assignEach es env).findIdx? (·.1) = none
  | [], _ => ⟨rfl, rfl⟩
  | e :: es, h => by
    unfold noStarT at h
    simp only [Bool.and_eq_true] at h
    rw [assign_cons _ _ h.1]
    obtain ⟨h1, h2⟩ := each_ok env h.2
    refine ⟨by rw [List.length_cons, List.length_cons, h1], ?_⟩
    rw [List.findIdx?_cons, if_neg (by simp), h2]
    rfl
mutual
theorem cTg_star {N : List Str} {sto : Str → Bool} : ∀ {n : Nat} {e : Expr} {t : Tg}, cTg N sto n e = some t → notStar e = true
  | 0, _, _, h => by cases h
  | n + 1, e, t, h => by
    unfold cTg at h
    split at h
    · rfl
    · rfl
    · cases h
theorem cTgs_star {N : List Str} {sto : Str → Bool} : ∀ {n : Nat} {es : List Expr} {ts : Tgs}, cTgs N sto n es = some ts → noStarT es = true
  | 0, _, _, h => by cases h
  | n + 1, es, ts, h => by
    unfold cTgs at h
    split at h
    · rfl
    · rename_i e r
      split at h
      · rename_i t us h1 h2
        unfold noStarT
        rw [cTg_star h1, cTgs_star h2]
        rfl
      · cases h
end
mutual
theorem snd_tg {sto : Str → Bool} (G : Good Φ T X sc) (hs : Sto X sto) : ∀ {n : Nat} {e : Expr} {t : Tg} {st : SS W} {σ : L2.St} {v : V} {x : SV} {sl' : List Sl}, cTg T.N sto n e = some t → Rel F st M σ H → RepSV (seen M st.g H) v x → bindT t x st.sl = some sl' →
    PGat X e v σ H (GPost F sto T.N st.sl sl' st.g M σ H)
  | 0, _, _, _, _, _, _, _, h, _, _, _ => by cases h
  | n + 1, e, t, st, σ, v, x, sl', h, re, rp, hb => by
    unfold cTg at h
    split at h
    · rename_i y pos
      split at h
      · rename_i hy
        cases q : ixOf T.N y with
        | none => rw [q] at h; cases h
        | some i =>
          rw [q] at h
          cases h
          unfold bindT at hb
          split at hb
          · cases hb
            obtain ⟨l1, l2⟩ := hs y hy
            refine PGat.of (pg_name (i := i) (by rw [G.N]; exact G.nd) (by rw [G.N]; exact ixOf_get q) l1 l2) ?_
            refine ⟨rfl, re.setv rp i, fun j hj => ?_, by simp, fun j z e => ?_⟩
            · have : i ≠ j := fun e => hj y hy (by rw [q, e])
              exact ⟨List.getElem?_set_ne this, List.getElem?_set_ne this⟩
            · rcases set_get e with ⟨_, e⟩ | ⟨n, e⟩
              · cases e
              · exact ⟨e, List.getElem?_set_ne fun q => n q.symm⟩
          · cases hb
      · cases h
    · rename_i es k pos
      cases q : cTgs T.N sto n es with
      | none => rw [q] at h; cases h
      | some ts =>
        rw [q] at h
        cases h
        cases x with
        | r u => cases hb
        | d d =>
          cases d with
          | tuple ds =>
            have hb : bindTs ts ds st.sl = some sl' := hb
            cases rp with
            | tup e1 e2 =>
              rename_i a xs
              obtain ⟨l1, l2⟩ := each_ok X.env (cTgs_star q)
              refine PGat.of (pg_tup G.calm pgs_at l1 l2) ?_
              refine ⟨a, xs, rfl, SqT.of (seen_sub _ _ e1), ?_, snd_tgs G hs q re e2 hb⟩
              rw [e2.length]
              exact bindTs_len q hb
          | _ => cases hb
    · cases h
theorem snd_tgs {sto : Str → Bool} (G : Good Φ T X sc) (hs : Sto X sto) : ∀ {n : Nat} {es : List Expr} {ts : Tgs} {st : SS W} {σ : L2.St} {vs : List V} {ds : List D} {sl' : List Sl}, cTgs T.N sto n es = some ts → Rel F st M σ H → RpAll (seen M st.g H) vs ds → bindTs ts ds st.sl = some sl' →
    PGsat X es vs σ H (GPost F sto T.N st.sl sl' st.g M σ H)
  | 0, _, _, _, _, _, _, _, h, _, _, _ => by cases h
  | n + 1, es, ts, st, σ, vs, ds, sl', h, re, rp, hb => by
    unfold cTgs at h
    split at h
    · cases h
      cases rp with
      | nil =>
        cases hb
        exact PGsat.of pgs_nil ⟨rfl, rfl, re, fun j hj => ⟨rfl, rfl⟩, rfl, fun j y e => ⟨e, rfl⟩⟩
      | cons _ _ => cases hb
    · rename_i e r
      split at h
      · rename_i t us h1 h2
        cases h
        cases rp with
        | nil => cases hb
        | cons r1 r2 =>
          rename_i v vr d dr
          unfold bindTs at hb
          split at hb
          · rename_i sl1 e1
            refine PGsat.of (pgs_cons pg_at pgs_at (by rw [assign_cons _ _ (cTg_star h1)]; rfl)) ⟨_, _, rfl, ?_⟩
            intro pins s u I r0
            refine thn (snd_tg G hs h1 re (x := .d d) r1 e1 pins s u I r0) fun _ s' ⟨σ2, H2, I2, e2, re2, k2, l2, o2⟩ => ?_
            rw [e2] at I2
            refine ⟨σ2, _, I2, ?_⟩
            intro pins s u I r0
            refine thn (snd_tgs G hs h2 re2 r2 hb pins s u I r0) fun _ s' ⟨σ3, H3, I3, e3, re3, k3, l3, o3⟩ => ?_
            exact ⟨σ3, H3, I3, e3, re3, fun j hj => ⟨(k3 j hj).1.trans (k2 j hj).1, (k3 j hj).2.trans (k2 j hj).2⟩, l3.trans l2, fun j y e => ⟨(o2 j y (o3 j y e).1).1, (o3 j y e).2.trans (o2 j y (o3 j y e).1).2⟩⟩
          · cases hb
      · cases h
theorem bindTs_len {N : List Str} {sto : Str → Bool} : ∀ {n : Nat} {es : List Expr} {ts : Tgs} {ds : List D} {sl sl' : List Sl}, cTgs N sto n es = some ts → bindTs ts ds sl = some sl' → ds.length = es.length
  | 0, _, _, _, _, _, h, _ => by cases h
  | n + 1, es, ts, ds, sl, sl', h, hb => by
    unfold cTgs at h
    split at h
    · cases h
      cases ds with
      | nil => rfl
      | cons _ _ => cases hb
    · rename_i e r
      split at h
      · rename_i t us h1 h2
        cases h
        cases ds with
        | nil => cases hb
        | cons d dr =>
          unfold bindTs at hb
          split at hb
          · rw [List.length_cons, List.length_cons, bindTs_len h2 hb]
          · cases hb
      · cases h
end
end
end PD
/-! PD11: comprehensions. -/
namespace PD
open PySem L2 PySem.Spec PyProof.Rows
section
variable {W : Wd} {Φ : Tab W} {T : Env_} {X : Cx} {sc : Scope} {F : Frm W} {st : SS W} {M : Addr → Bool} {σ : L2.St} {H : Hp} {xq : XQ W}
variable {s0 : Shared} {H0 : Hp} {scope : Scope} {C : Addr} {cl : List (Str × Addr)} {fp : List Addr}

/-! ### a block -/
def PEb (X : Cx) (scope : Scope) (e : Expr) : TE := fun σ H Q => ∀ (s : Shared) (H0 : Hp) (C : Addr) (cl : List (Str × Addr)) (fp : List Addr), PEat (X.blk s H0 scope (compEnvC scope cl C X.env) fp) e σ H Q
def PGb (X : Cx) (scope : Scope) (tg : Expr) : TG := fun v σ H Q => ∀ (s : Shared) (H0 : Hp) (C : Addr) (cl : List (Str × Addr)) (fp : List Addr), PGat (X.blk s H0 scope (compEnvC scope cl C X.env) fp) tg v σ H Q
def PTsat (X : Cx) (ifs : List Expr) : TT := fun σ H Q => ∀ (pins : List (Addr × Obj)) (s : Shared), Inv X pins σ H s →
  wpAny (model X.prog X.w) X.A (forIn ifs true fun c r => if r = true then do let ok ← isTrue c X.env (eval c X.env); pure (ForInStep.yield ok) else pure (ForInStep.yield r)) (TP X pins σ Q) X.xe s
theorem PTsat.of {ifs : List Expr} {t : TT} (h : PTs X ifs t) {σ : L2.St} {H : Hp} {Q : Bool → Hp → Prop} (q : t σ H Q) : PTsat X ifs σ H Q := fun pins s I => h.run pins s σ H Q I q
theorem PTsat.mono {ifs : List Expr} {Q Q' : Bool → Hp → Prop} (h : PTsat X ifs σ H Q) (q : ∀ v H', Q v H' → Q' v H') : PTsat X ifs σ H Q' := fun pins s I =>
  thn (h pins s I) fun u s' ⟨H', I', z⟩ => ⟨H', I', q _ _ z⟩
theorem PGat.mono {tg : Expr} {v : V} {Q Q' : L2.St → Hp → Prop} (h : PGat X tg v σ H Q) (q : ∀ v H', Q v H' → Q' v H') : PGat X tg v σ H Q' := fun pins s u I r =>
  thn (h pins s u I r) fun _ s' ⟨σ', H', I', z⟩ => ⟨σ', H', I', q _ _ z⟩
def PTb (X : Cx) (scope : Scope) (ifs : List Expr) : TT := fun σ H Q => ∀ (s : Shared) (H0 : Hp) (C : Addr) (cl : List (Str × Addr)) (fp : List Addr), PTsat (X.blk s H0 scope (compEnvC scope cl C X.env) fp) ifs σ H Q
theorem blk_pe {e : Expr} : PE (X.blk s0 H0 scope (compEnvC scope cl C X.env) fp) e (PEb X scope e) := ⟨fun pins s σ H Q I h => h s0 H0 C cl fp pins s I⟩
theorem blk_pg {e : Expr} : PG (X.blk s0 H0 scope (compEnvC scope cl C X.env) fp) e (PGb X scope e) := ⟨fun pins s σ H v u Q I r h => h s0 H0 C cl fp pins s u I r⟩
theorem blk_pts {e : List Expr} : PTs (X.blk s0 H0 scope (compEnvC scope cl C X.env) fp) e (PTb X scope e) := ⟨fun pins s σ H Q I h => h s0 H0 C cl fp pins s I⟩
theorem Good.blk (G : Good Φ T X sc) : Good Φ T (X.blk s0 H0 scope (compEnvC scope cl C X.env) fp) (relS scope sc) := by
  refine ⟨G.N, ?_, G.calm, G.nd, G.gd, G.un, G.bl, fun f F e => G.real f F e, G.cst, G.fs⟩
  rw [← G.sc]
  rfl
theorem takesB : Takes (X.blk s0 H0 scope (compEnvC scope cl C X.env) fp) (XPost F X.mg noX) := fun _ _ x => by
  obtain ⟨_, _, _, _, _, _, _, _, _, _, _, _, _, _, _, _, z⟩ := x
  obtain ⟨_, _, _, _, _, z⟩ := z
  exact z.elim
theorem stoB (G : Good Φ T X sc) : Sto (X.blk s0 H0 scope (compEnvC scope cl C X.env) fp) (stoC scope) := fun x h => by
  have e : (X.blk s0 H0 scope (compEnvC scope cl C X.env) fp).env.scope.names = (relS scope X.env.scope).names := rfl
  unfold stoC at h
  split at h
  · rename_i q
    have z := lookup_relS_keep (sc := X.env.scope) (by intro e; cases e) q
    exact ⟨.inl z, .inr z⟩
  · rename_i q
    have z := lookup_relS_keep (sc := X.env.scope) (by intro e; cases e) q
    refine ⟨.inr z, .inl ?_⟩
    show (scope.names.lookup x == some NameKind.cell) = true
    rw [q]
    rfl
  · cases h

/-! ### tests of a clause -/
inductive TsOk (Φ : Tab W) (T : Env_) (sc : Scope) : List Expr → Es → Prop
  | nil : TsOk Φ T sc [] .nil
  | one {c : Expr} {ic : E} : SndT Φ T sc c ic → TsOk Φ T sc [c] (.cons ic .nil)
theorem snd_ts {ifs : List Expr} {irs : Es} (h : TsOk Φ T sc ifs irs) (G : Good Φ T X sc) (tk : Takes X (XPost F X.mg xq)) (re : Rel F st M σ H) {K : Bool → SS W → Prop} (hw : wpIfs Φ irs xq st K) : PTsat X ifs σ H (TPost F σ st M H K) := by
  cases h with
  | nil =>
    unfold wpIfs at hw
    exact PTsat.of pts_nil ⟨st, M, Adv.refl _ _ _ _, re, hw⟩
  | one hc =>
    unfold wpIfs at hw
    refine PTsat.of (pts_one pt_at) (hc X G F st M σ H xq K tk re ?_)
    unfold wpT
    refine opd_mono hw (fun o s ⟨x, t, e1, e2, z⟩ => ⟨x, t, e1, e2, ?_⟩) fun Q Q' => wpE_mono Φ (fun f F e => (G.real f F e).1) _
    cases t with
    | true =>
      rw [if_pos rfl] at z
      unfold wpIfs at z
      exact z
    | false =>
      rw [if_neg Bool.false_ne_true] at z
      exact z

/-! ### slots that a block forgets -/
theorem unset_in {sl : List Sl} {j : Nat} (hl : j < sl.length) : ∀ {vs : List Nat}, j ∈ vs → (unset vs sl)[j]? = some .un
  | [], h => by cases h
  | i :: r, h => by
    unfold unset
    by_cases q : i = j
    · subst q
      exact set_at (by rw [unset_len]; exact hl)
    · rw [List.getElem?_set_ne q]
      rcases List.mem_cons.mp h with e | e
      · exact absurd e.symm q
      · exact unset_in hl e
theorem wipe_in {σ : L2.St} {j : Nat} (hl : j < σ.length) : ∀ {vs : List Nat}, j ∈ vs → (wipe σ vs)[j]? = some none
  | [], h => by cases h
  | i :: r, h => by
    unfold wipe
    by_cases q : i = j
    · subst q
      exact set_at (by rw [wipe_length]; exact hl)
    · rw [List.getElem?_set_ne q]
      rcases List.mem_cons.mp h with e | e
      · exact absurd e.symm q
      · exact wipe_in hl e
theorem wipe_eq {σ σ2 : L2.St} {vs : List Nat} (hl : σ2.length = σ.length) (h : ∀ j, j ∉ vs → σ2[j]? = (wipe σ vs)[j]?) : wipe σ2 vs = wipe σ vs := by
  refine List.ext_getElem? fun j => ?_
  by_cases q : j ∈ vs
  · by_cases l : j < σ.length
    · rw [wipe_in l q, wipe_in (by rw [hl]; exact l) q]
    · rw [List.getElem?_eq_none (by rw [wipe_length]; omega), List.getElem?_eq_none (by rw [wipe_length]; omega)]
  · rw [wipe_out q, h j q]
theorem wipe_idem (σ : L2.St) (vs : List Nat) : wipe (wipe σ vs) vs = wipe σ vs := wipe_eq (wipe_length σ vs) fun _ _ => rfl

/-- the loop's state -/
structure LI (F : Frm W) (p : Addr) (own : List Nat) (σ : L2.St) (st2 : SS W) (M2 : Addr → Bool) (H1 : Hp) (acc : List D) (s : SS W) (M' : Addr → Bool) (H : Hp) : Prop where
  rel : Rel F ⟨unset own s.sl, s.g⟩ M' (wipe σ own) H
  sub : Sub (seen M2 st2.g H1) (seen M' s.g H)
  fix : ∀ a, M2 a = true → Free st2 σ a → M' a = true ∧ H a = H1 a
  ow : ∀ (i : Nat) (y : D), (unset own s.sl)[i]? = some (.own y) → ∃ x, st2.sl[i]? = some (Sl.own x)
  alive : ∀ b, H1 b ≠ none → H b ≠ none
  len : s.sl.length = st2.sl.length
  dm : M' p = true
  dn : F.H0 p = none
  df : Free (W := W) ⟨unset own s.sl, s.g⟩ (wipe σ own) p
  da : ∃ vs, H p = some (.lst vs) ∧ RpAll (seen M' s.g H) vs acc
section
variable {p : Addr} {own : List Nat} {st2 s : SS W} {M2 M' : Addr → Bool} {H1 : Hp} {acc : List D}
theorem LI.new (li : LI F p own σ st2 M2 H1 acc s M' H) {q : Addr} {o : HO} (hq : H q = none) : LI F p own σ st2 M2 H1 acc s M' (upd H q o) := by
  have sb : Sub H (upd H q o) := Sub.new hq
  have ss : Sub (seen M' s.g H) (seen M' s.g (upd H q o)) := (Grow.sub (g := s.g) sb).seen M'
  obtain ⟨vs, e1, e2⟩ := li.da
  refine ⟨li.rel.ext sb, li.sub.trans ss, fun a h f => ?_, li.ow, fun b h => (Grow.sub (W := W) (g := s.g) sb).alive b (li.alive b h), li.len, li.dm, li.dn, li.df, vs, sb _ _ e1, e2.sub ss⟩
  obtain ⟨h1, h2⟩ := li.fix a h f
  refine ⟨h1, ?_⟩
  rw [upd_ne fun e => ?_]
  · exact h2
  · subst e
    exact (li.rel.mdom _ h1).1 hq
theorem LI.step (li : LI F p own σ st2 M2 H1 acc s M' H) {sl : List Sl} {σ2 : L2.St} (e0 : wipe σ2 own = wipe σ own) (ho : ∀ (j : Nat) (y : D), sl[j]? = some (.own y) → (unset own s.sl)[j]? = some (.own y) ∧ σ2[j]? = (wipe σ own)[j]?)
    (hl : sl.length = s.sl.length) {s5 : SS W} {M5 : Addr → Bool} {H5 : Hp} (ad : Adv σ2 ⟨sl, s.g⟩ M' H s5 M5 H5) (re : Rel F s5 M5 σ2 H5) : LI F p own σ st2 M2 H1 acc s5 M5 H5 := by
  have fr : ∀ a, Free (W := W) ⟨unset own s.sl, s.g⟩ (wipe σ own) a → Free (W := W) ⟨sl, s.g⟩ σ2 a := fun a f i y e => by
    obtain ⟨h1, h2⟩ := ho i y e
    rw [h2]
    exact f i y h1
  have fo : ∀ a, Free st2 σ a → Free (W := W) ⟨unset own s.sl, s.g⟩ (wipe σ own) a := fun a f i y e => by
    obtain ⟨x, h⟩ := li.ow i y e
    rcases unset_get e with ⟨_, h2⟩ | ⟨h1, _⟩
    · cases h2
    · rw [wipe_out h1]
      exact f i x h
  obtain ⟨vs, e1, e2⟩ := li.da
  obtain ⟨f1, f2⟩ := ad.fix p li.dm (fr p li.df)
  refine ⟨?_, li.sub.trans ad.sub, fun a h f => ?_, fun i y h => ?_, fun b h => ad.alive b (li.alive b h), ?_, f1, li.dn, fun i y h => ?_, vs, f2.trans e1, e2.sub ad.sub⟩
  · rw [← e0]
    exact re.unset own
  · obtain ⟨h1, h2⟩ := li.fix a h f
    obtain ⟨h3, h4⟩ := ad.fix a h1 (fr a (fo a f))
    exact ⟨h3, h4.trans h2⟩
  · rcases unset_get h with ⟨_, h2⟩ | ⟨_, h2⟩
    · cases h2
    · obtain ⟨x, h3⟩ := ad.own i y h2
      exact li.ow i x (ho i x h3).1
  · rw [ad.len]
    exact hl.trans li.len
  · rcases unset_get h with ⟨_, h2⟩ | ⟨_, h2⟩
    · cases h2
    · obtain ⟨x, h3⟩ := ad.own i y h2
      exact li.df i x (ho i x h3).1
theorem LI.add (li : LI F p own σ st2 M2 H1 acc s M' H) (hp : H1 p = none) (hm : ∀ a, M2 a = true → H1 a ≠ none) {vs : List V} {v : V} {d : D} (e : H p = some (.lst vs)) (r : Rp (seen M' s.g H) v d) : LI F p own σ st2 M2 H1 (acc ++ [d]) s M' (upd H p (.lst (vs ++ [v]))) := by
  have sq : seen M' s.g (upd H p (.lst (vs ++ [v]))) = seen M' s.g H := seen_upd li.dm
  obtain ⟨vs', e1, e2⟩ := li.da
  rw [e] at e1
  cases e1
  refine ⟨li.rel.upd_free li.dm li.dn li.df, by rw [sq]; exact li.sub, fun a h f => ?_, li.ow, fun b h => ?_, li.len, li.dm, li.dn, li.df, _, upd_same, by rw [sq]; exact e2.append (.one r)⟩
  · obtain ⟨h1, h2⟩ := li.fix a h f
    refine ⟨h1, ?_⟩
    rw [upd_ne fun z => ?_]
    · exact h2
    · subst z
      exact hm _ h hp
  · by_cases z : b = p
    · subst z
      rw [upd_same]
      simp
    · rw [upd_ne z]
      exact li.alive b h
end

/-- a block's end: the own places as they were -/
theorem LI.done {p : Addr} {own : List Nat} {st2 s : SS W} {M2 M' : Addr → Bool} {H1 : Hp} {acc : List D} (li : LI F p own σ (st2.frzs own) M2 H1 acc s M' H) (re2 : Rel F (st2.frzs own) M2 σ H1) (hp : H1 p = none) :
    Adv σ (st2.frzs own) M2 H1 ⟨back own (st2.frzs own).sl s.sl, s.g⟩ M' H ∧ Rel F ⟨back own (st2.frzs own).sl s.sl, s.g⟩ M' σ H ∧ OwnAt F M' s.g H p (.list acc) ∧ Free (W := W) ⟨back own (st2.frzs own).sl s.sl, s.g⟩ σ p := by
  have nt : ∀ (j : Nat) (y : D), (back own (st2.frzs own).sl s.sl)[j]? = some (.own y) → j ∉ own ∧ (unset own s.sl)[j]? = some (.own y) := fun j y h => by
    rcases back_get h with ⟨h1, h2⟩ | ⟨h1, h2⟩
    · exfalso
      rw [List.getD_eq_getElem?_getD] at h2
      cases q : (st2.frzs own).sl[j]? with
      | none => rw [q] at h2; cases h2
      | some z =>
        rw [q] at h2
        cases h2
        exact (frzs_notown q).1 h1
    · exact ⟨h1, by rw [unset_out h1]; exact h2⟩
  obtain ⟨vs, e1, e2⟩ := li.da
  refine ⟨⟨li.sub, li.fix, fun j y h => li.ow j y (nt j y h).2, li.alive, by rw [back_len]; exact li.len⟩, ?_, ⟨li.dm, li.dn, vs, acc, rfl, e1, e2⟩, fun j y h e => ?_⟩
  · refine ⟨?_, li.rel.R, li.rel.gr, li.rel.mdom, li.rel.m0, li.rel.m0d, fun j y h => ?_, fun j k y z b h1 h2 h3 h4 => ?_⟩
    · rw [back_len, li.len]
      exact re2.len
    · rcases back_get h with ⟨h1, h2⟩ | ⟨h1, h2⟩
      · rw [List.getD_eq_getElem?_getD] at h2
        cases q : (st2.frzs own).sl[j]? with
        | none => rw [q] at h2; subst h2; exact True.intro
        | some z =>
          rw [q] at h2
          subst h2
          have w := re2.sl j _ q
          cases y with
          | un => exact True.intro
          | val x =>
            obtain ⟨v, w1, w2⟩ := w
            exact ⟨v, w1, w2.sub li.sub⟩
          | own x => exact absurd h1 (frzs_notown q).1
      · have w := li.rel.sl j y (by rw [unset_out h1]; exact h2)
        have e : (wipe σ own)[j]? = σ[j]? := wipe_out h1
        cases y with
        | un => exact True.intro
        | val x => obtain ⟨v, w1, w2⟩ := w; exact ⟨v, e ▸ w1, w2⟩
        | own x => obtain ⟨v, w1, w2⟩ := w; exact ⟨v, e ▸ w1, w2⟩
    · obtain ⟨n1, k1⟩ := nt j y h1
      obtain ⟨n2, k2⟩ := nt k z h2
      exact li.rel.dis j k y z b k1 k2 (by rw [wipe_out n1]; exact h3) (by rw [wipe_out n2]; exact h4)
  · obtain ⟨n1, k1⟩ := nt j y h
    exact li.df j y k1 (by rw [wipe_out n1]; exact e)
theorem LI.srcs {p : Addr} {own : List Nat} {st1 s : SS W} {M1 M2 M' : Addr → Bool} {H1 : Hp} {acc : List D} (li : LI F p own σ (st1.frzs own) M2 H1 acc s M' H) (ss : Sub (seen M1 st1.g H1) (seen M' s.g H)) :
    ∀ {srcs : List (V × SV)} {os : List Op}, SrcsRep σ st1 (seen M1 st1.g H1) srcs os → (∀ i ∈ opsIx os, SS.get (W := W) ⟨unset own s.sl, s.g⟩ i = st1.get i) → ∀ q ∈ srcs, BR (seen M' s.g H) H q.1 q.2
  | _, _, .nil, _, q, h => by cases h
  | _, _, .cons (v := v) (x := x) (o := o) (ps := ps) (os := os) h1 h2 t, g, q, h => by
    have ht : ∀ i ∈ opsIx os, SS.get (W := W) ⟨unset own s.sl, s.g⟩ i = st1.get i := fun i hi => g i (by
      cases o with
      | slot j => exact List.mem_cons_of_mem _ hi
      | now y => exact hi)
    rcases List.mem_cons.mp h with rfl | h
    · cases o with
      | now y =>
        cases h2
        exact BR.of (RepSV.sub ss h1)
      | slot j =>
        have gj := g j List.mem_cons_self
        have h2 : st1.get j = some x := h2
        rw [h2] at gj
        have hj : j ∉ own := fun hj => by
          unfold SS.get at gj
          have gj : ((unset own s.sl)[j]?).bind Sl.get = some x := gj
          cases q : (unset own s.sl)[j]? with
          | none => rw [q] at gj; cases gj
          | some y =>
            rw [q] at gj
            rcases unset_get q with ⟨_, rfl⟩ | ⟨n, _⟩
            · cases gj
            · exact n hj
        have h1 : σ[j]? = some (some v) := h1
        exact OpRep.br (o := .slot j) li.rel (show (wipe σ own)[j]? = some (some v) by rw [wipe_out hj]; exact h1) gj
    · exact LI.srcs li ss t ht q h
theorem own_of {N : List Str} {sc : Scope} {x : Str} {i : Nat} (h : stoC sc x = true) (hi : ixOf N x = some i) : i ∈ (ownOf N sc).map (·.2) := by
  have hm : ∃ k, (x, k) ∈ sc.names := by
    unfold stoC at h
    split at h
    · rename_i q; exact ⟨_, PySem.mem_of_lookup q⟩
    · rename_i q; exact ⟨_, PySem.mem_of_lookup q⟩
    · cases h
  obtain ⟨k, hk⟩ := hm
  refine List.mem_map.mpr ⟨(x, i), ?_, rfl⟩
  unfold ownOf
  refine List.mem_filterMap.mpr ⟨(x, k), hk, ?_⟩
  rw [if_pos h, hi]
  rfl
/-- a comprehension's loop -/
theorem lc_read {tg it elt : Expr} {ifs : List Expr} {n : Nat} {tgI : Tg} {itI : Itr} {ifsI : Es} {eltI : E} (ht : cTg T.N (stoC scope) n tg = some tgI) (hi : SndI Φ T sc it itI) (hf : TsOk Φ T (relS scope sc) ifs ifsI) (he : SndE Φ T (relS scope sc) elt eltI)
    (G : Good Φ T X sc) (tk : Takes X (XPost F X.mg xq)) (re : Rel F st M σ H) {Q : Rs → SS W → Prop} (h : wpE Φ (.comp tgI itI ifsI eltI ((ownOf T.N scope).map (·.2))) xq st Q) :
    tLc (PIat X tg it) (PGb X scope tg) (PTb X scope ifs) (PEb X scope elt) ((ownOf T.N scope).map (·.2)) σ H (EPost F σ st M H Q) := by
  generalize hown : (ownOf T.N scope).map (·.2) = own at h ⊢
  unfold wpE at h
  refine (hi X G tg F st M σ H xq _ tk re h).mono fun J H1 z => ?_
  obtain ⟨items, srcs, os, st1, M1, ad, re1, sr, wk, cl⟩ := z
  intro p hp
  obtain ⟨M2, ad2, re2⟩ := re1.frzs own
  have re3 := (re2.unset own).on (o := .lst []) hp
  have li0 : LI F p own σ (st1.frzs own) M2 H1 [] ⟨unset own (st1.frzs own).sl, st1.g⟩ (onb M2 p) (upd H1 p (.lst [])) := by
    have g1 : (st1.frzs own).g = st1.g := frzs_g own st1
    have re4 := re3.unset own
    rw [wipe_idem] at re4
    refine ⟨?_, ?_, fun a h f => ⟨onb_of h, upd_ne fun e => ?_⟩, fun i y h => ?_, fun b h => ?_, unset_len _ _, onb_self, re1.new0 hp, fun i y h => ?_, [], upd_same, .nil⟩
    · rw [← g1]
      exact re4
    · rw [← g1]
      exact seen_on hp
    · subst e
      exact (re2.mdom _ h).1 hp
    · rcases unset_get h with ⟨_, h2⟩ | ⟨_, h2⟩
      · cases h2
      · rcases unset_get h2 with ⟨_, h3⟩ | ⟨_, h3⟩
        · cases h3
        · exact ⟨y, h3⟩
    · by_cases z : b = p
      · subst z; exact absurd hp h
      · rw [upd_ne z]; exact h
    · exact (re2.unset own).free_new hp i y (by
        rcases unset_get h with ⟨_, h2⟩ | ⟨_, h2⟩
        · cases h2
        · exact h2)
  have hm2 : ∀ a, M2 a = true → H1 a ≠ none := fun a h => (re2.mdom a h).1
  generalize hturn : (fun (x : D) (s : SS W) (k : Option D → SS W → Prop) => ∃ sl, bindT tgI (.d x) (unset own s.sl) = some sl ∧ wpIfs Φ ifsI noX ⟨sl, s.g⟩ fun b s2 => if b = true then wpE Φ eltI noX s2 fun r s3 => ∃ y, r.sv = .d y ∧ k (some y) s3 else k none s2) = turn at cl
  generalize hgd : (fun (s : SS W) => ∀ i ∈ opsIx os, SS.get (W := W) ⟨unset own s.sl, s.g⟩ i = st1.get i) = gd at cl
  generalize hK : (fun (acc : List D) (s : SS W) => Q (.f (.list acc)) ⟨back own (st1.frzs own).sl s.sl, s.g⟩) = Kf at cl
  refine ⟨fun i m H => i ≤ items.length ∧ m = items.length - i ∧ ∃ acc s M', LI F p own σ (st1.frzs own) M2 H1 acc s M' H ∧ compL turn gd (items.drop i) acc s Kf, ⟨items.length, Nat.zero_le _, by simp, [], _, _, li0, cl⟩, ?_⟩
  rintro i m H5 ⟨hi5, rfl, acc, s, M', li, cl⟩
  have brs : gd s → ∀ q ∈ srcs, BR (seen M' s.g H5) H5 q.1 q.2 := fun g => by
    subst hgd
    exact li.srcs (ad2.sub.trans li.sub) sr g
  by_cases hlt : i < items.length
  · rw [List.drop_eq_getElem_cons hlt] at cl
    unfold compL at cl
    obtain ⟨g, tn⟩ := cl
    have w := (wk (seen M' s.g H5) H5 seen_sub (brs g)).2 i items[i] (List.getElem?_eq_getElem hlt)
    refine .inr ⟨w.1, fun H' => ∃ acc s M', LI F p own σ (st1.frzs own) M2 H1 acc s M' H' ∧ compL turn gd (items.drop (i + 1)) acc s Kf, fun H' ⟨acc, s, M', l, c⟩ => ⟨items.length - (i + 1), by omega, hlt, rfl, acc, s, M', l, c⟩, fun v H' y => ?_⟩
    have o := w.2 v H' y
    subst hturn
    obtain ⟨sl, hb, h3⟩ := tn
    have key : ∃ (_ : LI F p own σ (st1.frzs own) M2 H1 acc s M' H'), RepSV (seen M' s.g H') v (.d items[i]) := by
      generalize hr : Rs.v (.d items[i]) = r at o
      cases o with
      | same r0 =>
        cases hr
        exact ⟨li, r0⟩
      | @tup q xs ds hq ra =>
        injection hr with hr
        injection hr with hr
        rw [hr]
        have li' := li.new (o := .tup xs) hq
        have ss : Sub (seen M' s.g H5) (seen M' s.g (upd H5 q (.tup xs))) := (Grow.sub (g := s.g) (Sub.new hq)).seen M'
        exact ⟨li', Rp.tup (seen_at (li.rel.M_new hq) (foot_new li.rel.R hq) upd_same) (ra.sub ss)⟩
      | lst _ _ => cases hr
    obtain ⟨li, rp⟩ := key
    intro s0 H0 C cl0 fp
    refine PGat.mono (snd_tg (G.blk (s0 := s0) (H0 := H0) (scope := scope) (C := C) (cl := cl0) (fp := fp)) (stoB G) ht li.rel rp hb) fun σ2 H2 z => ?_
    obtain ⟨e2, re4, k4, l4, o4⟩ := z
    subst e2
    have sl4 : σ2.length = σ.length := by
      have h1 := re4.len
      have h2 := li.rel.len
      rw [wipe_length] at h2
      have h1 : sl.length = σ2.length := h1
      have h2 : (unset own s.sl).length = σ.length := h2
      rw [← h1, l4, h2]
    have we : wipe σ2 own = wipe σ own := wipe_eq sl4 fun j hj => (k4 j fun x hx hxi => hj (by rw [← hown]; exact own_of hx hxi)).1
    refine ⟨we, fun s0 H0 C cl0 fp => ?_⟩
    refine (snd_ts hf (G.blk (s0 := s0) (H0 := H0) (scope := scope) (C := C) (cl := cl0) (fp := fp)) takesB re4 h3).mono fun b H6 z => ?_
    obtain ⟨st5, M5, ad5, re5, k5⟩ := z
    have li5 := li.step we o4 (by rw [l4, unset_len]) ad5 re5
    cases b with
    | false =>
      rw [if_neg Bool.false_ne_true] at k5 ⊢
      exact ⟨acc, st5, M5, li5, k5⟩
    | true =>
      rw [if_pos rfl] at k5 ⊢
      intro s0 H0 C cl0 fp
      refine (snd_val (K := fun x s3 => ∃ y, x = .d y ∧ acc.length < sizeLine ∧ compL _ gd (items.drop (i + 1)) (acc ++ [y]) s3 Kf) he (G.blk (s0 := s0) (H0 := H0) (scope := scope) (C := C) (cl := cl0) (fp := fp)) takesB re5 k5).mono fun v6 H7 z => ?_
      obtain ⟨x, st6, M6, ad6, re6, rp6, y, rfl, hz, k6⟩ := z
      have li6 := li.step we o4 (by rw [l4, unset_len]) (ad5.trans ad6) re6
      obtain ⟨vs, e1, r1⟩ := li6.da
      exact ⟨vs, e1, by rw [r1.length]; exact hz, _, st6, M6, li6.add hp hm2 e1 rp6, k6⟩
  · have ei : i = items.length := by omega
    subst ei
    rw [List.drop_length] at cl
    unfold compL at cl
    obtain ⟨g, kf⟩ := cl
    refine .inl ⟨(wk (seen M' s.g H5) H5 seen_sub (brs g)).1, ?_⟩
    subst hK
    obtain ⟨a1, a2, a3, a4⟩ := li.done re2 hp
    refine ⟨.f (.list acc), _, M', (ad.trans ad2).trans a1, a2, ⟨p, rfl, ?_, a3, a4⟩, kf⟩
    cases q : H p with
    | none => rfl
    | some u => exact absurd hp (ad.alive p (by rw [q]; simp))
theorem snd_comp {tg it elt : Expr} {ifs : List Expr} {n : Nat} {tgI : Tg} {itI : Itr} {ifsI : Es} {eltI : E} {pos : Pos} (hb : blkC T.N sc scope (ownOf T.N scope) = true) (ht : cTg T.N (stoC scope) n tg = some tgI) (hi : SndI Φ T sc it itI) (hf : TsOk Φ T (relS scope sc) ifs ifsI) (he : SndE Φ T (relS scope sc) elt eltI)
    (hs : notSet it = true) : SndE Φ T sc (.ListComp elt [⟨tg, it, ifs, 0⟩] scope pos) (.comp tgI itI ifsI eltI ((ownOf T.N scope).map (·.2))) := by
  intro X G F st M σ H xq Q tk re h
  refine PEat.of (pe_lc (own := ownOf T.N scope) G.calm (by rw [G.N]; exact G.nd) pi_at ?_ (fun s H C cl fp => blk_pg) (fun s H C cl fp => blk_pts) (fun s H C cl fp => blk_pe) (fun x => ?_)) (lc_read ht hi hf he G tk re h)
  · rw [G.N, G.sc]
    exact blkOk_by hb
  · cases it <;> first
      | rfl
      | cases hs
end
end PD
/-! PD12: all expressions. -/
namespace PD
open PySem L2 PySem.Spec PyProof.Rows
section
variable {W : Wd} {Φ : Tab W} {T : Env_} {sc : Scope}

def AllOk (Φ : Tab W) (T : Env_) (n : Nat) : Prop := ∀ sc e ir, cE T n sc e = some ir → SndE Φ T sc e ir ∧ IsVarE T sc e ir ∧ ∀ m, tOk m e = true → SndT Φ T sc e ir
theorem cEs_ok {n : Nat} (h : AllOk Φ T n) : ∀ {es : List Expr} {irs : Es}, cEs (cE T n sc) es = some irs → Served Φ T sc es irs
  | [], irs, e => by
    unfold cEs at e
    cases e
    exact .nil
  | x :: r, irs, e => by
    unfold cEs at e
    split at e
    · rename_i hs
      split at e
      · rename_i a b h1 h2
        cases e
        obtain ⟨q1, q2, _⟩ := h _ _ _ h1
        exact .cons hs q1 q2 (cEs_ok h h2)
      · cases e
    · cases e
theorem cEo_ok {n : Nat} (h : AllOk Φ T n) {e : Option Expr} {ir : Eo} (hc : cEo (cE T n sc) e = some ir) : ServedO Φ T sc e ir := by
  unfold cEo at hc
  split at hc
  · cases hc
    exact .none
  · split at hc
    · rename_i h1
      cases hc
      exact .some (h _ _ _ h1).1
    · cases hc
theorem sndG_any (hΦ : ∀ f F, Φ f = some F → Mono F) {n m : Nat} (h : AllOk Φ T n) {e : Expr} {ir : E} (hc : cE T n sc e = some ir) (ht : tOk m e = true) : SndG Φ T sc e ir := by
  obtain ⟨q1, q2, q3⟩ := h _ _ _ hc
  cases hp : plainT e with
  | true => exact sndG_plain hp q1
  | false =>
    refine sndG_of ?_ (q3 m ht) hΦ
    cases hv : ir.isVar with
    | none => rfl
    | some i =>
      exfalso
      have e1 : ir = .var i := by
        cases ir <;> first
          | cases hv
          | skip
        rfl
      obtain ⟨x, pos, rfl, _⟩ := q2 i e1
      cases hp
theorem cAnd_ok (hΦ : ∀ f F, Φ f = some F → Mono F) {n : Nat} (h : AllOk Φ T n) {pos : Pos} : ∀ {a : Expr} {es : List Expr} {ir : E}, cBool (cE T n sc) .and (a :: es) = some ir →
    SndE Φ T sc (.BoolOp .And (a :: es) pos) ir ∧ ∀ m, (a :: es).all (tOk m) = true → SndW Φ T sc (.BoolOp .And (a :: es) pos) ir
  | a, [], ir, e => by
    have e : cE T n sc a = some ir := e
    refine ⟨snd_one (h _ _ _ e).1, fun m hm => sndW_one (sndG_any (m := m) hΦ h e ?_)⟩
    simpa using hm
  | a, b :: r, ir, e => by
    unfold cBool at e
    split at e
    · rename_i ia ib h1 h2
      cases e
      obtain ⟨q1, q2, q3⟩ := h _ _ _ h1
      obtain ⟨r1, r2⟩ := cAnd_ok hΦ h (pos := pos) h2
      refine ⟨snd_and q1 q2 r1, fun m hm => ?_⟩
      rw [List.all_cons, Bool.and_eq_true] at hm
      exact sndW_and (q3 m hm.1) (r2 m hm.2) hΦ
    · cases e
theorem cOr_ok (hΦ : ∀ f F, Φ f = some F → Mono F) {n : Nat} (h : AllOk Φ T n) {pos : Pos} : ∀ {a : Expr} {es : List Expr} {ir : E}, cBool (cE T n sc) .or (a :: es) = some ir →
    SndE Φ T sc (.BoolOp .Or (a :: es) pos) ir ∧ ∀ m, (a :: es).all (tOk m) = true → SndW Φ T sc (.BoolOp .Or (a :: es) pos) ir
  | a, [], ir, e => by
    have e : cE T n sc a = some ir := e
    refine ⟨snd_one (h _ _ _ e).1, fun m hm => sndW_one (sndG_any (m := m) hΦ h e ?_)⟩
    simpa using hm
  | a, b :: r, ir, e => by
    unfold cBool at e
    split at e
    · rename_i ia ib h1 h2
      cases e
      obtain ⟨q1, q2, q3⟩ := h _ _ _ h1
      obtain ⟨r1, r2⟩ := cOr_ok hΦ h (pos := pos) h2
      refine ⟨snd_or q1 q2 r1, fun m hm => ?_⟩
      rw [List.all_cons, Bool.and_eq_true] at hm
      exact sndW_or (q3 m hm.1) (r2 m hm.2) hΦ
    · cases e
theorem isVar_two {k : E → E → E} (hk : ∀ a b, (k a b).isVar = none) {f : Expr → Option E} {a b : Expr} {r : List Expr} {ir : E} (e : cBool f k (a :: b :: r) = some ir) : ir.isVar = none := by
  unfold cBool at e
  split at e
  · cases e
    exact hk _ _
  · cases e
theorem notVar {e : Expr} {ir : E} (h : ir.isVar = none) : IsVarE T sc e ir := fun i e => by
  subst e
  cases h
/-- an expression of a plain form -/
theorem plain3 {e : Expr} {ir : E} (hp : plainT e = true) (q : SndE Φ T sc e ir) (v : IsVarE T sc e ir) : SndE Φ T sc e ir ∧ IsVarE T sc e ir ∧ ∀ m, tOk m e = true → SndT Φ T sc e ir := ⟨q, v, fun _ _ => snd_plainT hp q v⟩
theorem map_some {α β : Type} {f : α → β} {o : Option α} {y : β} (h : o.map f = some y) : ∃ x, o = some x ∧ y = f x := by
  cases o with
  | none => cases h
  | some x => cases h; exact ⟨x, rfl, rfl⟩
theorem cIt_ok {n : Nat} (h : AllOk Φ T n) {e : Expr} {it : Itr} (hc : cIt sc (cE T n sc) e = some it) : SndI Φ T sc e it ∧ notSet e = true := by
  unfold cIt at hc
  split at hc
  · refine ⟨?_, rfl⟩
    split at hc
    · rename_i x p args pos hx
      obtain ⟨rfl, hg⟩ := hx
      split at hc
      · split at hc
        · rename_i hs
          obtain ⟨ia, h1, rfl⟩ := map_some hc
          exact snd_rng1 hg hs (h _ _ _ h1).1
        · cases hc
      · split at hc
        · rename_i hs
          split at hc
          · rename_i h1 h2
            cases hc
            exact snd_rng2 hg hs.1 hs.2 (h _ _ _ h1).1 (h _ _ _ h2).1
          · cases hc
        · cases hc
      · split at hc
        · rename_i hs
          split at hc
          · rename_i h1 h2 h3
            cases hc
            exact snd_rng3 hg hs.1 hs.2.1 hs.2.2 (h _ _ _ h1).1 (h _ _ _ h2).1 (h _ _ _ h3).1
          · cases hc
        · cases hc
      · cases hc
    · split at hc
      · cases hc
      · obtain ⟨ia, h1, rfl⟩ := map_some hc
        obtain ⟨q1, q2, _⟩ := h _ _ _ h1
        exact snd_seq q1 q2
  · split at hc
    · rename_i hs
      obtain ⟨ia, h1, rfl⟩ := map_some hc
      obtain ⟨q1, q2, _⟩ := h _ _ _ h1
      exact ⟨snd_seq q1 q2, hs⟩
    · cases hc
theorem cTs_ok {n m : Nat} (h : AllOk Φ T n) {ifs : List Expr} {irs : Es} (hl : ifs.length ≤ 1) (ht : ifs.all (tOk m) = true) (hc : cEs (cE T n sc) ifs = some irs) : TsOk Φ T sc ifs irs := by
  cases ifs with
  | nil =>
    unfold cEs at hc
    cases hc
    exact .nil
  | cons c r =>
    cases r with
    | cons _ _ => simp at hl
    | nil =>
      unfold cEs at hc
      split at hc
      · split at hc
        · rename_i a b h1 h2
          cases hc
          unfold cEs at h2
          cases h2
          exact .one ((h _ _ _ h1).2.2 m (by simpa using ht))
        · cases hc
      · cases hc
theorem cE_ok (hΦ : ∀ f F, Φ f = some F → Mono F) : ∀ n, AllOk Φ T n
  | 0 => fun _ _ _ h => by cases h
  | n + 1 => by
    have ih := cE_ok hΦ n
    intro sc e ir h
    unfold cE at h
    split at h
    · -- a name
      split at h
      · rename_i hd
        split at h
        · rename_i hv
          obtain ⟨i, h1, rfl⟩ := map_some h
          refine plain3 rfl (snd_name (n := 0) h1 hv hd.1 hd.2) fun j e => ?_
          cases e
          exact ⟨_, _, rfl, h1, hv, hd.1, hd.2⟩
        · split at h
          · rename_i hg
            obtain ⟨d, h1, rfl⟩ := map_some h
            exact plain3 rfl (snd_global hg hd.1 h1) (notVar rfl)
          · cases h
      · cases h
    · obtain ⟨d, h1, rfl⟩ := map_some h
      exact plain3 rfl (snd_cst h1) (notVar rfl)
    · obtain ⟨d, h1, rfl⟩ := map_some h
      exact plain3 rfl (snd_tup (cEs_ok ih h1)) (notVar rfl)
    · obtain ⟨d, h1, rfl⟩ := map_some h
      exact plain3 rfl (snd_lst (cEs_ok ih h1)) (notVar rfl)
    · split at h
      · rename_i h0 h1 h2
        cases h
        obtain ⟨a1, a2, _⟩ := ih _ _ _ h1
        obtain ⟨b1, b2, _⟩ := ih _ _ _ h2
        rw [bopOf_op h0]
        exact plain3 rfl (snd_bin a1 a2 b1 b2) (notVar rfl)
      · cases h
    · obtain ⟨d, h1, rfl⟩ := map_some h
      refine ⟨snd_neg (ih _ _ _ h1).1, notVar rfl, fun m hm => ?_⟩
      cases m <;> cases hm
    · obtain ⟨d, h1, rfl⟩ := map_some h
      obtain ⟨a1, a2, a3⟩ := ih _ _ _ h1
      refine ⟨snd_not a1 a2, notVar rfl, fun m hm => ?_⟩
      cases m with
      | zero => cases hm
      | succ m => exact snd_notT (a3 m hm)
    · split at h
      · rename_i hs
        split at h
        · rename_i h1 h2
          cases h
          obtain ⟨a1, a2, _⟩ := ih _ _ _ h1
          obtain ⟨b1, b2, _⟩ := ih _ _ _ h2
          exact ⟨snd_cmp hs a1 a2 b1 b2, notVar rfl, fun _ _ => snd_cmpT hs a1 a2 b1 b2⟩
        · cases h
      · cases h
    · split at h
      · rename_i hs
        split at h
        · rename_i h1 h2 h3
          cases h
          obtain ⟨a1, _, _⟩ := ih _ _ _ h1
          obtain ⟨b1, _, _⟩ := ih _ _ _ h2
          obtain ⟨c1, _, _⟩ := ih _ _ _ h3
          exact ⟨snd_chain hs a1 b1 c1, notVar rfl, fun _ _ => snd_chainT hs a1 b1 c1⟩
        · cases h
      · cases h
    · obtain ⟨q1, q2⟩ := cAnd_ok hΦ ih h
      refine ⟨q1, notVar (isVar_two (fun _ _ => rfl) h), fun m hm => ?_⟩
      cases m with
      | zero => cases hm
      | succ m => exact sndT_of (isVar_two (fun _ _ => rfl) h) (sndG_w (q2 m hm)) hΦ
    · obtain ⟨q1, q2⟩ := cOr_ok hΦ ih h
      refine ⟨q1, notVar (isVar_two (fun _ _ => rfl) h), fun m hm => ?_⟩
      cases m with
      | zero => cases hm
      | succ m => exact sndT_of (isVar_two (fun _ _ => rfl) h) (sndG_w (q2 m hm)) hΦ
    · split at h
      · rename_i ht
        split at h
        · rename_i h1 h2 h3
          cases h
          refine ⟨snd_ife ((ih _ _ _ h1).2.2 _ ht) (ih _ _ _ h2).1 (ih _ _ _ h3).1, notVar rfl, fun m hm => ?_⟩
          cases m <;> cases hm
        · cases h
      · cases h
    · split at h
      · rename_i h1 h2 h3
        cases h
        obtain ⟨a1, a2, _⟩ := ih _ _ _ h1
        exact plain3 rfl (snd_cut a1 a2 (cEo_ok ih h2) (cEo_ok ih h3)) (notVar rfl)
      · cases h
    · obtain ⟨d, h1, rfl⟩ := map_some h
      obtain ⟨a1, a2, _⟩ := ih _ _ _ h1
      exact plain3 rfl (snd_rev a1 a2) (notVar rfl)
    · split at h
      · rename_i hs
        split at h
        · rename_i h1 h2
          cases h
          obtain ⟨a1, a2, _⟩ := ih _ _ _ h1
          exact plain3 rfl (snd_idx hs a1 a2 (ih _ _ _ h2).1) (notVar rfl)
        · cases h
      · cases h
    · split at h
      · rename_i hg
        split at h
        · rename_i hf
          obtain ⟨d, h1, rfl⟩ := map_some h
          exact plain3 rfl (snd_call hg.1 hg.2 hf (cEs_ok ih h1)) (notVar rfl)
        · split at h
          · rename_i hb
            obtain ⟨d, h1, rfl⟩ := map_some h
            exact plain3 rfl (snd_blt hb hg.1 (cEs_ok ih h1)) (notVar rfl)
          · cases h
      · cases h
    · split at h
      · rename_i hc
        split at h
        · split at h
          · rename_i hv
            split at h
            · rename_i h1 h2
              cases h
              exact plain3 rfl (snd_mut (by assumption) hc.2.1 hc.2.2 h1 hv.2.2 hv.1 hv.2.1 (cEs_ok ih h2)) (notVar rfl)
            · cases h
          · cases h
        · split at h
          · rename_i h0 h1 h2
            cases h
            obtain ⟨a1, a2, _⟩ := ih _ _ _ h1
            exact plain3 rfl (snd_mth h0 hc.1 hc.2.1 hc.2.2 a1 a2 (cEs_ok ih h2)) (notVar rfl)
          · cases h
      · cases h
    · split at h
      · split at h
        · rename_i hk
          obtain ⟨rfl, hk, ht, hl⟩ := hk
          split at h
          · rename_i h0 h1 h2 h3
            cases h
            obtain ⟨i1, i2⟩ := cIt_ok ih h1
            exact plain3 rfl (snd_comp hk h0 i1 (cTs_ok ih hl ht h2) (ih _ _ _ h3).1 i2) (notVar rfl)
          · cases h
        · cases h
      · cases h
    · cases h
end
end PD
/-! PD13: statements. -/
namespace PD
open PySem L2 PySem.Spec PyProof.Rows
section
variable {W : Wd} {Φ : Tab W} {T : Env_} {X : Cx} {sc : Scope} {F : Frm W} {st : SS W} {M : Addr → Bool} {σ : L2.St} {H : Hp} {xq : XQ W}

/-! ### weakest readings of statements -/
def PSat (X : Cx) (s : Stmt) : TS := fun D σ H => ∀ (pins : List (Addr × Obj)) (s0 : Shared), Inv X pins σ H s0 → wpAny (model X.prog X.w) X.A (exec s X.env) (SP X pins D) X.xe s0
def PSsat (X : Cx) (s : List Stmt) : TS := fun D σ H => ∀ (pins : List (Addr × Obj)) (s0 : Shared), Inv X pins σ H s0 → wpAny (model X.prog X.w) X.A (execs s X.env) (SP X pins D) X.xe s0
theorem ps_at {s : Stmt} : PS X s (PSat X s) := ⟨fun pins s0 σ H D I h => h pins s0 I⟩
theorem pss_at {s : List Stmt} : PSs X s (PSsat X s) := ⟨fun pins s0 σ H D I h => h pins s0 I⟩
theorem PSat.of {s : Stmt} {t : TS} (h : PS X s t) {D : Ends} (q : t D σ H) : PSat X s D σ H := fun pins s0 I => h.run pins s0 σ H D I q
theorem PSsat.of {s : List Stmt} {t : TS} (h : PSs X s t) {D : Ends} (q : t D σ H) : PSsat X s D σ H := fun pins s0 I => h.run pins s0 σ H D I q
structure EndLe (D D' : Ends) : Prop where
  nx : ∀ σ H, D.nx σ H → D'.nx σ H
  rt : ∀ v H, D.rt v H → D'.rt v H
  bk : ∀ σ H, D.bk σ H → D'.bk σ H
  ct : ∀ σ H, D.ct σ H → D'.ct σ H
theorem sp_mono {pins : List (Addr × Obj)} {D D' : Ends} (l : EndLe D D') {f : Flow} {s' : Shared} (h : SP X pins D f s') : SP X pins D' f s' := by
  cases f with
  | next => obtain ⟨σ', H', I, q⟩ := h; exact ⟨σ', H', I, l.nx _ _ q⟩
  | brk => obtain ⟨σ', H', I, q⟩ := h; exact ⟨σ', H', I, l.bk _ _ q⟩
  | cont => obtain ⟨σ', H', I, q⟩ := h; exact ⟨σ', H', I, l.ct _ _ q⟩
  | ret u => obtain ⟨v, σ', H', I, r, q⟩ := h; exact ⟨v, σ', H', I, r, l.rt _ _ q⟩
theorem PSat.mono {s : Stmt} {D D' : Ends} (h : PSat X s D σ H) (l : EndLe D D') : PSat X s D' σ H := fun pins s0 I => thn (h pins s0 I) fun _ _ q => sp_mono l q
theorem PSsat.mono {s : List Stmt} {D D' : Ends} (h : PSsat X s D σ H) (l : EndLe D D') : PSsat X s D' σ H := fun pins s0 I => thn (h pins s0 I) fun _ _ q => sp_mono l q

/-! ### ends -/
def NxP (F : Frm W) (S : Hp) (K : SS W → Prop) : L2.St → Hp → Prop := fun σ' H' => ∃ st' M', Sub S (seen M' st'.g H') ∧ Rel F st' M' σ' H' ∧ K st'
def RtP (F : Frm W) (R : Rs → SS W → Prop) : VK := fun v H' => ∃ r st', Grow F.g0 F.H0 st'.g H' ∧ W.R st'.g H' ∧ RetRep F.M0 st'.g F.H0 H' v r ∧ R r st'
def EndsOf (F : Frm W) (P : Po W) (S : Hp) : Ends := { nx := NxP F S P.nx, rt := RtP F P.rt, bk := NxP F S P.bk, ct := NxP F S P.ct }
theorem NxP.sub {S S' : Hp} {K : SS W → Prop} {σ' : L2.St} {H' : Hp} (s : Sub S S') (h : NxP F S' K σ' H') : NxP F S K σ' H' := by
  obtain ⟨st', M', h1, h2, h3⟩ := h
  exact ⟨st', M', s.trans h1, h2, h3⟩
theorem ends_sub {P : Po W} {S S' : Hp} (s : Sub S S') : EndLe (EndsOf F P S') (EndsOf F P S) := ⟨fun _ _ h => h.sub s, fun _ _ h => h, fun _ _ h => h.sub s, fun _ _ h => h.sub s⟩
theorem RtP.of {Hs : Hp} (re : Rel F st M σ H) {v : V} {r : Rs} (rp : RepRs F Hs st M σ H v r) {R : Rs → SS W → Prop} (q : R r st) : RtP F R v H := by
  refine ⟨r, st, re.gr, re.R, ?_, q⟩
  cases r with
  | v x => exact RepSV.sub (seen_mono re.m0) rp
  | f x =>
    obtain ⟨a, rfl, _, ow, _⟩ := rp
    obtain ⟨xs, ds, rfl, e1, e2⟩ := ow.rep
    refine ⟨a, xs, ds, rfl, rfl, ow.new, (re.mdom a ow.m).2, e1, e2.sub (seen_mono fun b h => ?_)⟩
    by_cases z : b = a
    · subst z; exact ow.m
    · rw [onb_ne z] at h; exact re.m0 b h
structure GoodS (Φ : Tab W) (T : Env_) (X : Cx) (sc : Scope) : Prop where
  g : Good Φ T X sc
  sto : Sto X (stoC sc)
  pass : PassesOwn (model X.prog X.w) X.A X.env X.xe
  kind : X.env.scope.kind = .function
def SndS (Φ : Tab W) (T : Env_) (sc : Scope) (s : Stmt) (ir : Stm) : Prop := ∀ (X : Cx), GoodS Φ T X sc → ∀ (F : Frm W) (st : SS W) (M : Addr → Bool) (σ : L2.St) (H : Hp) (P : Po W),
  Takes X (XPost F X.mg P.xq) → Rel F st M σ H → wpS Φ ir st P → PSat X s (EndsOf F P (seen M st.g H)) σ H
def SndSs (Φ : Tab W) (T : Env_) (sc : Scope) (s : List Stmt) (ir : List Stm) : Prop := ∀ (X : Cx), GoodS Φ T X sc → ∀ (F : Frm W) (st : SS W) (M : Addr → Bool) (σ : L2.St) (H : Hp) (P : Po W),
  Takes X (XPost F X.mg P.xq) → Rel F st M σ H → wpSs Φ ir st P → PSsat X s (EndsOf F P (seen M st.g H)) σ H

/-! ### blocks -/
theorem snd_nil : SndSs Φ T sc [] [] := by
  intro X G F st M σ H P tk re h
  unfold wpSs at h
  exact PSsat.of pss_nil ⟨st, M, Sub.refl _, re, h⟩
theorem snd_cons {s : Stmt} {r : List Stmt} {i : Stm} {ir : List Stm} (h1 : SndS Φ T sc s i) (h2 : SndSs Φ T sc r ir) : SndSs Φ T sc (s :: r) (i :: ir) := by
  intro X G F st M σ H P tk re h
  unfold wpSs at h
  refine PSsat.of (pss_cons ps_at pss_at) ?_
  refine (h1 X G F st M σ H ⟨fun st' => wpSs Φ ir st' P, P.rt, P.bk, P.ct, P.xq⟩ tk re h).mono ⟨fun σ' H' z => ?_, fun _ _ z => z, fun _ _ z => z, fun _ _ z => z⟩
  obtain ⟨st', M', sb, re', k⟩ := z
  exact (h2 X G F st' M' σ' H' P tk re' k).mono (ends_sub sb)
theorem snd_pass {pos : Pos} : SndS Φ T sc (.Pass pos) .pass := by
  intro X G F st M σ H P tk re h
  unfold wpS at h
  exact PSat.of ps_pass ⟨st, M, Sub.refl _, re, h⟩
theorem snd_doc {x : Str} {j : Nat} {p pos : Pos} : SndS Φ T sc (.Expr (.Constant (.str x) j p) pos) .pass := by
  intro X G F st M σ H P tk re h
  unfold wpS at h
  exact PSat.of ps_doc ⟨st, M, Sub.refl _, re, h⟩
theorem snd_brk {pos : Pos} : SndS Φ T sc (.Break pos) .brk := by
  intro X G F st M σ H P tk re h
  unfold wpS at h
  exact PSat.of ps_break ⟨st, M, Sub.refl _, re, h⟩
theorem snd_cnt {pos : Pos} : SndS Φ T sc (.Continue pos) .cnt := by
  intro X G F st M σ H P tk re h
  unfold wpS at h
  exact PSat.of ps_continue ⟨st, M, Sub.refl _, re, h⟩
theorem sw_off {e : Expr} {t : Option Expr} {l : Nat} {env : PySem.Env} (h : notComp e = true) : swapsWith e t l env = pure false := by
  cases e <;> first
    | rfl
    | cases h
theorem sw_offS {tg e : Expr} {l : Nat} {env : PySem.Env} (h : notComp e = true) : swapsWithSole [tg] e l env = pure false := sw_off (t := some tg) h
theorem snd_expr {e : Expr} {ir : E} {pos : Pos} (hn : notComp e = true) (hE : SndE Φ T sc e ir) : SndS Φ T sc (.Expr e pos) (.expr ir) := by
  intro X G F st M σ H P tk re h
  unfold wpS at h
  refine PSat.of (ps_expr pe_at (sw_off hn)) ?_
  refine (hE X G.g F st M σ H P.xq _ tk re h).mono fun v H1 z => ?_
  obtain ⟨r, st', M', ad, re', rp, k⟩ := z
  exact ⟨st', M', ad.sub, re', k⟩
theorem snd_ret0 {pos : Pos} : SndS Φ T sc (.Return none pos) .ret0 := by
  intro X G F st M σ H P tk re h
  unfold wpS at h
  exact PSat.of ps_retN (RtP.of (Hs := H) (r := .v (.d .none)) re .non h)
theorem snd_ret {e : Expr} {ir : E} {pos : Pos} (hE : SndE Φ T sc e ir) (hv : IsVarE T sc e ir) : SndS Φ T sc (.Return (some e) pos) (.ret ir) := by
  intro X G F st M σ H P tk re h
  unfold wpS at h
  refine PSat.of (ps_ret pe_at) ?_
  split at h
  · rename_i i q
    have e1 : ir = .var i := by
      cases ir <;> first
        | cases q
        | skip
      rfl
    obtain ⟨x, p, rfl, h1, h2, h3, h4⟩ := hv i e1
    split at h
    · rename_i d e2
      obtain ⟨a, ev, ow⟩ := re.sl i _ e2
      refine at_name G.g h1 h2 h3 h4 ev ⟨.f d, ⟨st.sl.set i .un, st.g⟩, re.gr, re.R, ?_, h⟩
      obtain ⟨xs, ds, rfl, e3, e4⟩ := ow.rep
      refine ⟨a, xs, ds, rfl, rfl, ow.new, (re.mdom a ow.m).2, e3, e4.sub (seen_mono fun b h => ?_)⟩
      by_cases z : b = a
      · subst z; exact ow.m
      · rw [onb_ne z] at h; exact re.m0 b h
    · rename_i x e2
      obtain ⟨v, ev, rp⟩ := re.sl i _ e2
      exact at_name G.g h1 h2 h3 h4 ev (RtP.of (Hs := H) (r := .v x) re rp h)
    · exact h.elim
  · refine (hE X G.g F st M σ H P.xq _ tk re h).mono fun v H1 z => ?_
    obtain ⟨r, st', M', ad, re', rp, k⟩ := z
    exact RtP.of re' rp k
theorem snd_ifS {c : Expr} {a b : List Stmt} {ic : E} {ia ib : List Stm} {pos : Pos} (hc : SndT Φ T sc c ic) (ha : SndSs Φ T sc a ia) (hb : SndSs Φ T sc b ib) : SndS Φ T sc (.If c a b pos) (.ife ic ia ib) := by
  intro X G F st M σ H P tk re h
  unfold wpS at h
  refine PSat.of (ps_if pt_at pss_at pss_at) ?_
  refine (hc X G.g F st M σ H P.xq _ tk re h).mono fun t H1 z => ?_
  obtain ⟨st', M', ad, re', k⟩ := z
  cases t with
  | true =>
    rw [if_pos rfl] at k ⊢
    exact (ha X G F st' M' σ H1 P tk re' k).mono (ends_sub ad.sub)
  | false =>
    rw [if_neg Bool.false_ne_true] at k ⊢
    exact (hb X G F st' M' σ H1 P tk re' k).mono (ends_sub ad.sub)

/-! ### stores -/
theorem snd_asg {x : Str} {e : Expr} {ir : E} {i : Nat} {px pos : Pos} (hs : stoC sc x = true) (hi : ixOf T.N x = some i) (hn : notComp e = true) (hE : SndE Φ T sc e ir) : SndS Φ T sc (.Assign [.Name x px] e pos) (.asg (.nm i) ir) := by
  intro X G F st M σ H P tk re h
  unfold wpS at h
  obtain ⟨l1, l2⟩ := G.sto x hs
  refine PSat.of (ps_set (i := i) (by rw [G.g.N]; exact G.g.nd) (by rw [G.g.N]; exact ixOf_get hi) l1 pe_at (sw_off hn) l2) ?_
  refine (hE X G.g F st M σ H P.xq _ tk re h).mono fun v H1 z => ?_
  obtain ⟨r, st', M', ad, re', rp, k⟩ := z
  exact ⟨st'.put i r, M', ad.sub, re'.put rp i, k⟩
theorem snd_asgC {x : Str} {tg it elt : Expr} {ifs : List Expr} {scope : Scope} {n : Nat} {tgI : Tg} {itI : Itr} {ifsI : Es} {eltI : E} {i : Nat} {px pos spos : Pos} (hx : isLoc sc x = true) (hl : (px.line == pos.line) = true)
    (hq : (scope.names.any fun (n, k) => n == x && (k == .local || k == .cell)) = false) (hi : ixOf T.N x = some i) (hb : blkC T.N sc scope (ownOf T.N scope) = true) (ht : cTg T.N (stoC scope) n tg = some tgI) (hit : SndI Φ T sc it itI) (hf : TsOk Φ T (relS scope sc) ifs ifsI)
    (he : SndE Φ T (relS scope sc) elt eltI) (hs : notSet it = true) : SndS Φ T sc (.Assign [.Name x px] (.ListComp elt [⟨tg, it, ifs, 0⟩] scope pos) spos) (.asg (.nm i) (.comp tgI itI ifsI eltI ((ownOf T.N scope).map (·.2)))) := by
  intro X G F st M σ H P tk re h
  unfold wpS at h
  have lx : X.env.scope.names.lookup x = some .local := by
    rw [G.g.sc]
    unfold isLoc at hx
    split at hx
    · assumption
    · cases hx
  refine PSat.of (ps_setLc (i := i) (own := ownOf T.N scope) G.g.calm (by rw [G.g.N]; exact G.g.nd) (by rw [G.g.N]; exact ixOf_get hi) lx (sw_true G.kind lx hl hq) pi_at ?_ (fun s H C cl fp => blk_pg) (fun s H C cl fp => blk_pts) (fun s H C cl fp => blk_pe) (fun y => ?_)) ?_
  · rw [G.g.N, G.g.sc]
    exact blkOk_by hb
  · cases it <;> first
      | rfl
      | cases hs
  · have key := lc_read ht hit hf he G.g tk re h
    refine PIat.mono key fun J H1 z p hp => ?_
    obtain ⟨Wv, w0, turn⟩ := z p hp
    refine ⟨Wv, w0, fun j m H5 w => ?_⟩
    rcases turn j m H5 w with ⟨stop, q⟩ | go
    · refine .inl ⟨stop, ?_⟩
      obtain ⟨r, st', M', ad, re', rp, k⟩ := q
      exact ⟨st'.put i r, M', ad.sub, re'.put rp i, k⟩
    · exact .inr go
theorem snd_asgT {ts : List Expr} {k : Nat} {pt pos : Pos} {e : Expr} {ir : E} {tI : Tg} {n : Nat} (ht : cTg T.N (stoC sc) n (.Tuple ts k pt) = some tI) (hn : notComp e = true) (hw : ∀ X : Cx, X.env.scope.kind = .function → X.env.scope = sc → swappedStores [.Tuple ts k pt] e X.env = pure none) (hE : SndE Φ T sc e ir) :
    SndS Φ T sc (.Assign [.Tuple ts k pt] e pos) (.asg tI ir) := by
  intro X G F st M σ H P tk re h
  cases tI with
  | nm i =>
    exfalso
    cases n with
    | zero => cases ht
    | succ n =>
      unfold cTg at ht
      obtain ⟨_, _, e⟩ := map_some ht
      cases e
  | tup us =>
    unfold wpS at h
    refine PSat.of (ps_asg pe_at pg_at (sw_off hn) (hw X G.kind G.g.sc)) ?_
    refine (snd_val (K := fun x st' => ∃ sl, bindT (.tup us) x st'.sl = some sl ∧ P.nx ⟨sl, st'.g⟩) hE G.g tk re h).mono fun v H1 z => ?_
    obtain ⟨x, st', M', ad, re', rp, sl, hb, q⟩ := z
    refine (snd_tg G.g G.sto ht re' rp hb).mono fun σ2 H2 z => ?_
    obtain ⟨rfl, re2, _, _, _⟩ := z
    exact ⟨⟨sl, st'.g⟩, M', ad.sub, re2, q⟩
theorem aug_add {x y : SV} {Q : D → Prop} (h : augW .add x y Q) : ∃ i j, x = .d (.int i) ∧ y = .d (.int j) ∧ Q (.int (i + j)) := by
  unfold augW at h
  split at h <;> first
    | exact ⟨_, _, rfl, rfl, h⟩
    | contradiction
theorem aug_sub {x y : SV} {Q : D → Prop} (h : augW .sub x y Q) : ∃ i j, x = .d (.int i) ∧ y = .d (.int j) ∧ Q (.int (i - j)) := by
  unfold augW at h
  split at h <;> first
    | exact ⟨_, _, rfl, rfl, h⟩
    | contradiction
theorem snd_aug {x : Str} {e : Expr} {ir : E} {i : Nat} {op : Operator} {o : Bop} {px pos : Pos} (hs : stoC sc x = true) (hi : ixOf T.N x = some i) (ho : aopOf op = some o) (hE : SndE Φ T sc e ir) : SndS Φ T sc (.AugAssign (.Name x px) op e pos) (.aug i o ir) := by
  intro X G F st M σ H P tk re h
  unfold wpS at h
  obtain ⟨x0, g, h⟩ := h
  obtain ⟨l1, l2⟩ := G.sto x hs
  obtain ⟨v, ev⟩ := get_slot re (i := i) (by rw [g]; rfl)
  have bx : BR (seen M st.g H) H v x0 := OpRep.br (o := .slot i) re ev g
  have hN : X.N.Nodup := by rw [G.g.N]; exact G.g.nd
  have hx : X.N[i]? = some x := by rw [G.g.N]; exact ixOf_get hi
  have fin : PEat X e σ H fun y H1 => ∃ (st' : SS W) (M' : Addr → Bool) (z : SV), Sub (seen M st.g H) (seen M' st'.g H1) ∧ Rel F st' M' σ H1 ∧ RepSV (seen M' st'.g H1) y z ∧ augW o x0 z fun w => P.nx (st'.put i (.v (.d w))) :=
    (snd_val (K := fun z st' => augW o x0 z fun w => P.nx (st'.put i (.v (.d w)))) hE G.g tk re h).mono fun y H1 z => by
      obtain ⟨x, st', M', ad, re', rp, q⟩ := z
      exact ⟨st', M', x, ad.sub, re', rp, q⟩
  cases op <;> first
    | cases ho
    | skip
  · refine PSat.of (ps_aug hN hx l1 pe_at ip_add l2) ⟨v, ev, fin.mono fun y H1 z => ?_⟩
    obtain ⟨st', M', z, sb, re', rp, q⟩ := z
    obtain ⟨a, b, rfl, rfl, q⟩ := aug_add q
    cases bx.int
    cases rp
    exact ⟨_, _, rfl, rfl, ⟨st'.sl.set i (.val (.d (.int (a + b)))), st'.g⟩, M', sb, re'.setv (x := .d (.int (a + b))) (Rp.int (a + b)) i, q⟩
  · refine PSat.of (ps_aug hN hx l1 pe_at ip_sub l2) ⟨v, ev, fin.mono fun y H1 z => ?_⟩
    obtain ⟨st', M', z, sb, re', rp, q⟩ := z
    obtain ⟨a, b, rfl, rfl, q⟩ := aug_sub q
    cases bx.int
    cases rp
    exact ⟨_, _, rfl, rfl, ⟨st'.sl.set i (.val (.d (.int (a - b)))), st'.g⟩, M', sb, re'.setv (x := .d (.int (a - b))) (Rp.int (a - b)) i, q⟩
theorem asg_sub {o k e : Expr} {p : Pos} {env : PySem.Env} : swappedStores [.Subscript o k p] e env = pure none := by
  cases e <;> rfl
theorem snd_setI {x : Str} {k e : Expr} {ik ie : E} {i : Nat} {px ps pos : Pos} (hi : ixOf T.N x = some i) (hv : visC sc x = true) (hd : (x == ("__debug__" : Str)) = false) (hc : (x == ("__classdict__" : Str)) = false) (hk : notSlice k = true) (hn : notComp e = true) (hK : SndE Φ T sc k ik) (hE : SndE Φ T sc e ie) :
    SndS Φ T sc (.Assign [.Subscript (.Name x px) k ps] e pos) (.setI i ik ie) := by
  intro X G F st M σ H P tk re h
  unfold wpS at h
  obtain ⟨⟨x0, g⟩, h⟩ := h
  refine PSat.of (ps_asg pe_at (pg_sub pe_at pe_at set_list (fun v => ?_)) (sw_offS hn) asg_sub) ?_
  · cases k <;> first
      | rfl
      | cases hk
  · refine (snd_val (K := fun r st1 => wpE Φ ik P.xq st1 fun rk st2 => ∃ ds z j y, st2.sl[i]? = some (.own (.list ds)) ∧ rk.sv = .d (.int z) ∧ ixN ds.length z = some j ∧ r = .d y ∧ P.nx ⟨st2.sl.set i (.own (.list (ds.set j y))), st2.g⟩) hE G.g tk re h).mono fun v H1 z => ?_
    obtain ⟨r, st1, M1, ad1, re1, rp1, h1⟩ := z
    show PEat X (.Name x px) σ H1 fun o H2 => PEat X k σ H2 fun kv H3 => rSetL o kv v H3 fun H4 => NxP F (seen M st.g H) P.nx σ H4
    have key : ∀ u, σ[i]? = some (some u) → PEat X (.Name x px) σ H1 fun o H2 => PEat X k σ H2 fun kv H3 => rSetL o kv v H3 fun H4 => NxP F (seen M st.g H) P.nx σ H4 := fun u eu => by
      refine at_name G.g hi hv hd hc eu ?_
      refine (snd_val (K := fun rk st2 => ∃ ds z j y, st2.sl[i]? = some (.own (.list ds)) ∧ rk = .d (.int z) ∧ ixN ds.length z = some j ∧ r = .d y ∧ P.nx ⟨st2.sl.set i (.own (.list (ds.set j y))), st2.g⟩) hK G.g tk re1 h1).mono fun kv H3 z => ?_
      obtain ⟨rk, st2, M2, ad2, re2, rp2, ds, z, j, y, e1, rfl, e2, rfl, q⟩ := z
      obtain ⟨a, ea, ow⟩ := re2.sl i _ e1
      rw [eu] at ea
      cases ea
      obtain ⟨xs, ds', e3, e4, e5⟩ := ow.rep
      cases e3
      cases rp2
      refine ⟨a, xs, z, j, rfl, rfl, e4, by rw [e5.length]; exact e2, ?_⟩
      obtain ⟨re3, ad3⟩ := re2.set_own e1 eu (e5.set j (rp1.sub ad2.sub)) ow
      exact ⟨_, M2, (ad1.sub.trans ad2.sub).trans ad3.sub, re3, q⟩
    obtain ⟨u, eu⟩ := get_slot re (i := i) (by unfold SS.get; rw [g]; rfl)
    exact key u eu
end
end PD
/-! PD14: pairs stored at once; loops; all statements. -/
namespace PD
open PySem L2 PySem.Spec PyProof.Rows
section
variable {W : Wd} {Φ : Tab W} {T : Env_} {X : Cx} {sc : Scope} {F : Frm W} {st : SS W} {M : Addr → Bool} {σ : L2.St} {H : Hp} {xq : XQ W}

/-! ### results side by side -/
inductive RsAll (F : Frm W) (Hs : Hp) (st : SS W) (M : Addr → Bool) (σ : L2.St) (H : Hp) : List V → List Rs → Prop
  | nil : RsAll F Hs st M σ H [] []
  | cons {v : V} {r : Rs} {vs : List V} {rs : List Rs} : RepRs F Hs st M σ H v r → RsAll F Hs st M σ H vs rs → (∀ (x : D), r = Rs.f x → ∀ (j : Nat) (y : D), rs[j]? = some (Rs.f y) → vs[j]? ≠ some v) → RsAll F Hs st M σ H (v :: vs) (r :: rs)
theorem RsAll.at {Hs : Hp} : ∀ {vs : List V} {rs : List Rs} {j : Nat} {r : Rs}, RsAll F Hs st M σ H vs rs → rs[j]? = some r → ∃ v, vs[j]? = some v ∧ RepRs F Hs st M σ H v r
  | _, _, _, _, .nil, e => by simp at e
  | _, _, 0, _, .cons h _ _, e => by
    simp at e
    subst e
    exact ⟨_, rfl, h⟩
  | _, _, j + 1, _, .cons _ t _, e => by
    obtain ⟨v, h1, h2⟩ := RsAll.at t (j := j) (by simpa using e)
    exact ⟨v, by simpa using h1, h2⟩
theorem RsAll.back {Hs Hs' : Hp} (h : ∀ b, Hs b ≠ none → Hs' b ≠ none) : ∀ {vs : List V} {rs : List Rs}, RsAll F Hs' st M σ H vs rs → RsAll F Hs st M σ H vs rs
  | _, _, .nil => .nil
  | _, _, .cons a b c => .cons (a.back h) (RsAll.back h b) c
def RsPost (F : Frm W) (σ : L2.St) (st : SS W) (M : Addr → Bool) (H : Hp) (K : List Rs → SS W → Prop) : List V → Hp → Prop := fun vs H' =>
  ∃ rs st' M', Adv σ st M H st' M' H' ∧ Rel F st' M' σ H' ∧ RsAll F H st' M' σ H' vs rs ∧ K rs st'
theorem RepRs.adv {Hs : Hp} {st' : SS W} {M' : Addr → Bool} {H' : Hp} (ad : Adv σ st M H st' M' H') {v : V} : ∀ {r : Rs}, RepRs F Hs st M σ H v r → RepRs F Hs st' M' σ H' v r
  | .v _, h => RepSV.sub ad.sub h
  | .f x, h => by
    obtain ⟨a, e, hn, ow, fr⟩ := h
    obtain ⟨xs, ds, e1, e2, e3⟩ := ow.rep
    obtain ⟨f1, f2⟩ := ad.fix a ow.m fr
    exact ⟨a, e, hn, ⟨f1, ow.new, xs, ds, e1, f2.trans e2, e3.sub ad.sub⟩, ad.free fr⟩
theorem snd_rs (G : Good Φ T X sc) (tk : Takes X (XPost F X.mg xq)) : ∀ {es : List Expr} {irs : Es} {st : SS W} {M : Addr → Bool} {H : Hp} {K : List Rs → SS W → Prop}, Served Φ T sc es irs → Rel F st M σ H → wpRs Φ irs xq st K →
    PAat X es σ H (RsPost F σ st M H K)
  | _, _, st, M, H, K, .nil, re, h => PAat.of pa_nil ⟨[], st, M, Adv.refl _ _ _ _, re, .nil, h⟩
  | _, _, st, M, H, K, .cons (e := e) (es := es) hs hE hv t, re, h => by
    refine PAat.of (pa_cons pe_at pa_at (star_cons _ _ hs)) ?_
    unfold wpRs at h
    refine (hE X G F st M σ H xq _ tk re h).mono fun v H1 z => ?_
    obtain ⟨r, st1, M1, ad1, re1, rp1, h1⟩ := z
    refine (snd_rs G tk t re1 h1).mono fun vs H2 z2 => ?_
    obtain ⟨rs, st2, M2, ad2, re2, rp2, h2⟩ := z2
    refine ⟨r :: rs, st2, M2, ad1.trans ad2, re2, .cons (rp1.adv ad2) (rp2.back ad1.alive) fun x e j y hj => ?_, h2⟩
    subst e
    obtain ⟨a, rfl, _, ow, _⟩ := rp1
    obtain ⟨w, hw, rw'⟩ := rp2.at hj
    obtain ⟨b, rfl, hb, _, _⟩ := rw'
    intro q
    rw [hw] at q
    cases q
    exact (re1.mdom a ow.m).1 hb
theorem RepRs.put {Hs : Hp} {v v' : V} {r r' : Rs} (h : RepRs F Hs st M σ H v' r') (n : ∀ x y, r = .f x → r' = .f y → v' ≠ v) (re : Rel F st M σ H) (i : Nat) : RepRs F Hs (st.put i r) M (σ.set i (some v)) H v' r' := by
  cases r' with
  | v x => exact h
  | f x =>
    obtain ⟨a, rfl, hn, ow, fr⟩ := h
    refine ⟨a, rfl, hn, ow, fun j y e q => ?_⟩
    have e : (st.sl.set i r.sl)[j]? = some (.own y) := e
    have hj := (List.getElem?_eq_some_iff.mp e).1
    rcases set_get e with ⟨rfl, e1⟩ | ⟨m, e1⟩
    · rw [set_at (by rw [← re.len]; simpa using hj)] at q
      cases q
      cases r with
      | v x => cases e1
      | f z => exact n z x rfl rfl rfl
    · rw [List.getElem?_set_ne fun e => m e.symm] at q
      exact fr j y e1 q
def sets (σ : L2.St) : List Nat → List V → L2.St
  | i :: is, v :: vs => sets (σ.set i (some v)) is vs
  | _, _ => σ
theorem RsAll.put {Hs : Hp} {v : V} {r : Rs} (re : Rel F st M σ H) (i : Nat) : ∀ {vs : List V} {rs : List Rs}, RsAll F Hs st M σ H vs rs → (∀ (x : D), r = Rs.f x → ∀ (j : Nat) (y : D), rs[j]? = some (Rs.f y) → vs[j]? ≠ some v) → RsAll F Hs (st.put i r) M (σ.set i (some v)) H vs rs
  | _, _, .nil, _ => .nil
  | _, _, .cons h1 h2 h3, n => by
    refine .cons (h1.put (fun x y e1 e2 q => ?_) re i) (RsAll.put re i h2 fun x e j y hj => ?_) h3
    · subst e2
      exact n x e1 0 y (by simp) (by rw [q]; simp)
    · exact fun q => n x e (j + 1) y (by simpa using hj) (by simpa using q)
theorem Rel.puts {Hs : Hp} : ∀ {is : List Nat} {vs : List V} {rs : List Rs} {st : SS W} {σ : L2.St}, Rel F st M σ H → RsAll F Hs st M σ H vs rs → Rel F (st.puts is rs) M (sets σ is vs) H
  | [], _, _, _, _, re, _ => by
    unfold SS.puts sets
    exact re
  | i :: is, _, _, _, _, re, .nil => by
    unfold SS.puts sets
    exact re
  | i :: is, _, _, st, σ, re, .cons h1 h2 h3 => by
    unfold SS.puts sets
    exact Rel.puts (is := is) (re.put h1 i) (RsAll.put re i h2 h3)
theorem puts_g : ∀ (is : List Nat) (rs : List Rs) (st : SS W), (st.puts is rs).g = st.g
  | [], _, _ => rfl
  | _ :: _, [], _ => rfl
  | i :: is, r :: rs, st => puts_g is rs (st.put i r)

theorem any_star {vs : List Expr} (h : noStarT vs = true) {f : Expr → Bool} (hf : ∀ e, notStar e = true → f e = false) : vs.any f = false := by
  induction vs with
  | nil => rfl
  | cons e r ih =>
    unfold noStarT at h
    simp only [Bool.and_eq_true] at h
    rw [List.any_cons, ih h.2, hf e h.1]
    rfl
theorem par_two {x y : Str} {px py pt p2 : Pos} {vs : List Expr} {kt k2 : Nat} {env : PySem.Env} (hk : env.scope.kind = .function) (hx : env.kindOf x = some .local) (hy : env.kindOf y = some .local) (hl : (py.line == px.line) = true) (hn : x ≠ y)
    (h : parOk [.Name x px, .Name y py] vs = true) : swappedStores [.Tuple [.Name x px, .Name y py] kt pt] (.Tuple vs k2 p2) env = pure (some [x, y]) := by
  have hb : env.blockKind = .function := by unfold Env.blockKind; rw [hk]; rfl
  unfold parOk at h
  simp only [Bool.and_eq_true, Bool.not_eq_true'] at h
  obtain ⟨⟨⟨⟨_, h2⟩, h3⟩, h4⟩, h5⟩ := h
  have h2 : vs.length = 2 := by simpa using h2
  have hy' : (y == x) = false := by simpa using fun e => hn e.symm
  unfold swappedStores
  simp only [h2, hb, h4, h5, hx, hy, List.filterMap, Expr.pos, hl, List.head?, Option.map, Option.getD]
  rw [any_star h3 (fun e he => by cases e <;> first | rfl | cases he)]
  simp [List.eraseDups, List.eraseDupsBy, List.eraseDupsBy.loop, hn, hn.symm, hy']
theorem par_three {x y z : Str} {px py pz pt p2 : Pos} {vs : List Expr} {kt k2 : Nat} {env : PySem.Env} (hk : env.scope.kind = .function) (hx : env.kindOf x = some .local) (hy : env.kindOf y = some .local) (hz : env.kindOf z = some .local)
    (hl : (py.line == px.line) = true) (hl2 : (pz.line == px.line) = true) (hn : x ≠ y) (hn2 : x ≠ z) (hn3 : y ≠ z) (h : parOk [.Name x px, .Name y py, .Name z pz] vs = true) :
    swappedStores [.Tuple [.Name x px, .Name y py, .Name z pz] kt pt] (.Tuple vs k2 p2) env = pure (some [x, y, z]) := by
  have hb : env.blockKind = .function := by unfold Env.blockKind; rw [hk]; rfl
  unfold parOk at h
  simp only [Bool.and_eq_true, Bool.not_eq_true'] at h
  obtain ⟨⟨⟨⟨_, h2⟩, h3⟩, h4⟩, h5⟩ := h
  have h2 : vs.length = 3 := by simpa using h2
  have e1 : (y == x) = false := by simpa using fun e => hn e.symm
  have e2 : (z == x) = false := by simpa using fun e => hn2 e.symm
  have e3 : (z == y) = false := by simpa using fun e => hn3 e.symm
  unfold swappedStores
  simp only [h2, hb, h4, h5, hx, hy, hz, List.filterMap, Expr.pos, hl, hl2, List.head?, Option.map, Option.getD]
  rw [any_star h3 (fun e he => by cases e <;> first | rfl | cases he)]
  simp [List.eraseDups, List.eraseDupsBy, List.eraseDupsBy.loop, e1, e2, e3]
theorem short_fm {α β : Type} {f : α → Option β} : ∀ {l : List α}, (l.filterMap f).length ≤ l.length
  | [] => Nat.le_refl _
  | a :: l => by
    rw [List.filterMap_cons]
    have := short_fm (f := f) (l := l)
    split
    · simp; omega
    · simp; omega
theorem off_fm {α β : Type} {f : α → Option β} {l : List α} (h : ∃ a ∈ l, f a = none) : (l.filterMap f).length < l.length := by
  induction l with
  | nil => obtain ⟨_, h, _⟩ := h; cases h
  | cons a l ih =>
    obtain ⟨b, hb, e⟩ := h
    have s := short_fm (f := f) (l := l)
    rw [List.filterMap_cons, List.length_cons]
    cases q : f a with
    | none => exact Nat.lt_succ_of_le s
    | some y =>
      rcases List.mem_cons.mp hb with z | hb
      · subst z
        rw [e] at q
        cases q
      · exact Nat.succ_lt_succ (ih ⟨b, hb, e⟩)
theorem par_none {ts vs : List Expr} {kt k2 : Nat} {pt p2 : Pos} {env : PySem.Env} (hk : env.scope.kind = .function) (h : genOk env.scope ts vs = true) : swappedStores [.Tuple ts kt pt] (.Tuple vs k2 p2) env = pure none := by
  have hb : env.blockKind = .function := by unfold Env.blockKind; rw [hk]; rfl
  unfold genOk at h
  rw [Bool.or_eq_true] at h
  rcases h with h | h
  · unfold swappedStores
    simp only [h, Bool.true_or]
    rfl
  · simp only [Bool.and_eq_true, Bool.or_eq_true] at h
    obtain ⟨⟨h1, h2⟩, h3 | h3⟩ := h
    · unfold swappedStores
      simp only [h3]
      rw [any_star h2 (fun e he => by cases e <;> first | rfl | cases he)]
      repeat' split
      all_goals first
        | rfl
        | (exfalso; contradiction)
    · obtain ⟨t, ht, ho⟩ := List.any_eq_true.mp h3
      unfold swappedStores
      dsimp only
      repeat' split
      all_goals first
        | rfl
        | skip
      all_goals
        rename_i c1 c2 c3 c4 c5
        refine absurd ?_ c3
        rw [Bool.or_eq_true]
        left
        rw [bne_iff_ne]
        refine Nat.ne_of_lt (off_fm ⟨t, ht, ?_⟩)
        cases t <;> first
          | rfl
          | (rename_i x p
             have ho : (!isLoc env.scope x) = true := ho
             have ho : isLoc env.scope x = false := by simpa using ho
             unfold isLoc at ho
             have e : (env.kindOf x == some NameKind.local) = false := by
               unfold Env.kindOf
               split at ho
               · cases ho
               · rename_i n
                 simpa using n
             show (if (env.kindOf x == some NameKind.local && _) = true then some x else none) = none
             rw [e]
             rfl)
theorem isLoc_of {x : Str} (h : isLoc sc x = true) : sc.names.lookup x = some .local := by
  unfold isLoc at h
  split at h
  · assumption
  · cases h
theorem ix_ne {N : List Str} {x y : Str} {i j : Nat} (hi : ixOf N x = some i) (hj : ixOf N y = some j) (n : i ≠ j) : x ≠ y := fun e => by
  subst e
  rw [hi] at hj
  cases hj
  exact n rfl
theorem snd_par2 {x y : Str} {px py pt p2 pos : Pos} {vs : List Expr} {irs : Es} {i j kt k2 : Nat} (hx : isLoc sc x = true) (hy : isLoc sc y = true) (hl : (py.line == px.line) = true) (hi : ixOf T.N x = some i) (hj : ixOf T.N y = some j) (hij : i ≠ j)
    (hp : parOk [.Name x px, .Name y py] vs = true) (s : Served Φ T sc vs irs) : SndS Φ T sc (.Assign [.Tuple [.Name x px, .Name y py] kt pt] (.Tuple vs k2 p2) pos) (.par [i, j] irs) := by
  intro X G F st M σ H P tk re h
  unfold wpS at h
  have lx := G.g.kind (isLoc_of hx)
  have ly := G.g.kind (isLoc_of hy)
  have hvl : vs.length = 2 := by
    unfold parOk at hp
    simp only [Bool.and_eq_true] at hp
    simpa using hp.1.1.1.2
  match vs, hvl, s, hp with
  | [a, b], _, s, hp =>
    refine PSat.of (ps_par G.g.calm (by rw [G.g.N]; exact G.g.nd) (by rw [G.g.N]; exact ixOf_get hi) (by rw [G.g.N]; exact ixOf_get hj) hij lx ly pa_at (par_two G.kind lx ly hl (ix_ne hi hj hij) hp) (sw_offS rfl)) ?_
    refine (snd_rs G.g tk s re h).mono fun vs H1 z => ?_
    obtain ⟨rs, st', M', ad, re', ra, hlen, q⟩ := z
    match rs, hlen, ra, q with
    | [r1, r2], _, .cons (v := v) c1 (.cons (v := w) c2 .nil c4) c3, q =>
      refine ⟨v, w, rfl, st'.puts [i, j] [r1, r2], M', ?_, Rel.puts (is := [i, j]) re' (.cons c1 (.cons c2 .nil c4) c3), q⟩
      rw [puts_g]
      exact ad.sub
theorem snd_par3 {x y z : Str} {px py pz pt p2 pos : Pos} {vs : List Expr} {irs : Es} {i j l kt k2 : Nat} (hx : isLoc sc x = true) (hy : isLoc sc y = true) (hz : isLoc sc z = true) (hl : (py.line == px.line) = true) (hl2 : (pz.line == px.line) = true) (hi : ixOf T.N x = some i) (hj : ixOf T.N y = some j) (hk : ixOf T.N z = some l)
    (hij : i ≠ j) (hil : i ≠ l) (hjl : j ≠ l) (hp : parOk [.Name x px, .Name y py, .Name z pz] vs = true) (s : Served Φ T sc vs irs) : SndS Φ T sc (.Assign [.Tuple [.Name x px, .Name y py, .Name z pz] kt pt] (.Tuple vs k2 p2) pos) (.par [i, j, l] irs) := by
  intro X G F st M σ H P tk re h
  unfold wpS at h
  have lx := G.g.kind (isLoc_of hx)
  have ly := G.g.kind (isLoc_of hy)
  have lz := G.g.kind (isLoc_of hz)
  have hvl : vs.length = 3 := by
    unfold parOk at hp
    simp only [Bool.and_eq_true] at hp
    simpa using hp.1.1.1.2
  match vs, hvl, s, hp with
  | [a, b, c], _, s, hp =>
    refine PSat.of (ps_par3 G.g.calm (by rw [G.g.N]; exact G.g.nd) (by rw [G.g.N]; exact ixOf_get hi) (by rw [G.g.N]; exact ixOf_get hj) (by rw [G.g.N]; exact ixOf_get hk) hij hil hjl lx ly lz pa_at (par_three G.kind lx ly lz hl hl2 (ix_ne hi hj hij) (ix_ne hi hk hil) (ix_ne hj hk hjl) hp) (sw_offS rfl)) ?_
    refine (snd_rs G.g tk s re h).mono fun vs H1 z => ?_
    obtain ⟨rs, st', M', ad, re', ra, hlen, q⟩ := z
    match rs, hlen, ra, q with
    | [r1, r2, r3], _, .cons (v := u) c1 (.cons (v := v) c2 (.cons (v := w) c5 .nil c6) c4) c3, q =>
      refine ⟨u, v, w, rfl, st'.puts [i, j, l] [r1, r2, r3], M', ?_, Rel.puts (is := [i, j, l]) re' (.cons c1 (.cons c2 (.cons c5 .nil c6) c4) c3), q⟩
      rw [puts_g]
      exact ad.sub
end
end PD
/-! PD15: loops; all statements. -/
namespace PD
open PySem L2 PySem.Spec PyProof.Rows
section
variable {W : Wd} {Φ : Tab W} {T : Env_} {X : Cx} {sc : Scope} {F : Frm W} {st : SS W} {M : Addr → Bool} {σ : L2.St} {H : Hp} {xq : XQ W}

theorem frzs_val {is : List Nat} {st : SS W} {M' : Addr → Bool} (re : Rel F (st.frzs is) M' σ H) {j : Nat} (hj : j ∈ is) {v : V} {x : SV} (hv : σ[j]? = some (some v)) (e : st.get j = some x) : RepSV (seen M' (st.frzs is).g H) v x := by
  rw [← frzs_get is st j] at e
  unfold SS.get at e
  cases q : (st.frzs is).sl[j]? with
  | none => rw [q] at e; cases e
  | some y =>
    rw [q] at e
    have z := re.sl j y q
    cases y with
    | un => cases e
    | val y =>
      cases e
      obtain ⟨u, z1, z2⟩ := z
      rw [hv] at z1
      cases z1
      exact z2
    | own y => exact absurd hj (frzs_notown q).1
theorem SrcsRep.frozen {is : List Nat} {st1 : SS W} {S : Hp} {M' : Addr → Bool} (re : Rel F (st1.frzs is) M' σ H) (sb : Sub S (seen M' (st1.frzs is).g H)) :
    ∀ {srcs : List (V × SV)} {os : List Op}, SrcsRep σ st1 S srcs os → (∀ i ∈ opsIx os, i ∈ is) → ∀ q ∈ srcs, RepSV (seen M' (st1.frzs is).g H) q.1 q.2
  | _, _, .nil, _, q, h => by cases h
  | _, _, .cons (v := v) (x := x) (o := o) (ps := ps) (os := os) h1 h2 t, g, q, h => by
    have ht : ∀ i ∈ opsIx os, i ∈ is := fun i hi => g i (by
      cases o with
      | slot j => exact List.mem_cons_of_mem _ hi
      | now y => exact hi)
    rcases List.mem_cons.mp h with rfl | h
    · cases o with
      | now y =>
        cases h2
        exact RepSV.sub sb h1
      | slot j => exact frzs_val re (g j List.mem_cons_self) h1 h2
    · exact SrcsRep.frozen re sb t ht q h
theorem snd_for {tg it : Expr} {body : List Stmt} {tI : Tg} {iI : Itr} {bI : List Stm} {n : Nat} {pos : Pos} (ht : cTg T.N (stoC sc) n tg = some tI) (hi : SndI Φ T sc it iI) (hs : notSet it = true) (hb : SndSs Φ T sc body bI) : SndS Φ T sc (.For tg it body [] pos) (.forr tI iI bI) := by
  intro X G F st M σ H P tk re h
  unfold wpS at h
  refine PSat.of (ps_for G.pass G.g.calm pi_at pg_at pss_at (fun x => ?_)) ?_
  · cases it <;> first
      | rfl
      | cases hs
  · refine (hi X G.g tg F st M σ H P.xq _ tk re h).mono fun J H1 z => ?_
    obtain ⟨items, srcs, os, st1, M1, ad, re1, sr, wk, fl⟩ := z
    obtain ⟨M2, ad2, re2⟩ := re1.frzs (opsIx os)
    have fz := sr.frozen re2 ad2.sub fun _ h => h
    generalize hturn : (fun (x : D) (s : SS W) (k : SS W → Prop) => ∃ sl, bindT tI (.d x) s.sl = some sl ∧ wpSs Φ bI ⟨sl, s.g⟩ ⟨k, P.rt, P.nx, k, P.xq⟩) = turn at fl
    refine ⟨fun i m σ' H' => i ≤ items.length ∧ m = items.length - i ∧ ∃ s M', Sub (seen M2 (st1.frzs (opsIx os)).g H1) (seen M' s.g H') ∧ Rel F s M' σ' H' ∧ forL turn (fun _ => True) (items.drop i) s P.nx, ⟨items.length, Nat.zero_le _, by simp, _, _, Sub.refl _, re2, fl⟩, ?_⟩
    rintro i m σ' H' ⟨hi5, rfl, s, M', sb, re', fl⟩
    have brs : ∀ q ∈ srcs, BR (seen M' s.g H') H' q.1 q.2 := fun q hq => BR.of (RepSV.sub sb (fz q hq))
    by_cases hlt : i < items.length
    · rw [List.drop_eq_getElem_cons hlt] at fl
      unfold forL at fl
      obtain ⟨_, tn⟩ := fl
      subst hturn
      obtain ⟨sl, hbd, h3⟩ := tn
      have w := (wk (seen M' s.g H') H' seen_sub brs).2 i items[i] (List.getElem?_eq_getElem hlt)
      refine .inr ⟨w.1, NxP F (seen M2 (st1.frzs (opsIx os)).g H1) fun s => forL _ (fun _ => True) (items.drop (i + 1)) s P.nx, fun σ6 H6 ⟨s, M', sb, re', fl⟩ => ⟨items.length - (i + 1), by omega, hlt, rfl, s, M', sb, re', fl⟩, fun v H5 y => ?_⟩
      have o := w.2 v H5 y
      have key : ∃ (_ : Rel F s M' σ' H5), Sub (seen M' s.g H') (seen M' s.g H5) ∧ RepSV (seen M' s.g H5) v (.d items[i]) := by
        generalize hr : Rs.v (.d items[i]) = r at o
        cases o with
        | same r0 =>
          cases hr
          exact ⟨re', Sub.refl _, r0⟩
        | @tup q xs ds hq ra =>
          injection hr with hr
          injection hr with hr
          rw [hr]
          have ss : Sub (seen M' s.g H') (seen M' s.g (upd H' q (.tup xs))) := (Grow.sub (g := s.g) (Sub.new hq)).seen M'
          exact ⟨re'.ext (Sub.new hq), ss, Rp.tup (seen_at (re'.M_new hq) (foot_new re'.R hq) upd_same) (ra.sub ss)⟩
        | lst _ _ => cases hr
      obtain ⟨re5, ss5, rp⟩ := key
      refine (snd_tg G.g G.sto ht re5 rp hbd).mono fun σ2 H2 z => ?_
      obtain ⟨e2, re6, _, _, _⟩ := z
      subst e2
      have tot := (ad.sub.trans ad2.sub).trans (sb.trans ss5)
      have hb' := fun (k : SS W → Prop) (h3 : wpSs Φ bI ⟨sl, s.g⟩ ⟨k, P.rt, P.nx, k, P.xq⟩) => hb X G F ⟨sl, s.g⟩ M' σ2 H2 ⟨k, P.rt, P.nx, k, P.xq⟩ tk re6 h3
      refine (hb' _ h3).mono ⟨fun σ7 H7 z => ?_, fun _ _ z => z, fun σ7 H7 z => ?_, fun σ7 H7 z => ?_⟩
      · exact z.sub (sb.trans ss5)
      · exact z.sub tot
      · exact z.sub (sb.trans ss5)
    · have ei : i = items.length := by omega
      subst ei
      rw [List.drop_length] at fl
      unfold forL at fl
      exact .inl ⟨(wk (seen M' s.g H') H' seen_sub brs).1, s, M', (ad.sub.trans ad2.sub).trans sb, re', fl.2⟩
theorem snd_whl {c : Expr} {body : List Stmt} {ic : E} {bI : List Stm} {pos : Pos} (hc : SndT Φ T sc c ic) (hb : SndSs Φ T sc body bI) : SndS Φ T sc (.While c body [] pos) (.whl ic bI) := by
  intro X G F st M σ H P tk re h
  unfold wpS at h
  refine PSat.of (ps_while G.pass pt_at pss_at) ?_
  obtain ⟨Iv, ⟨n0, i0⟩, turn⟩ := h
  refine ⟨fun m σ' H' => ∃ s M', Sub (seen M st.g H) (seen M' s.g H') ∧ Rel F s M' σ' H' ∧ Iv m s, ⟨n0, st, M, Sub.refl _, re, i0⟩, ?_⟩
  rintro m σ' H' ⟨s, M', sb, re', iv⟩
  refine (hc X G.g F s M' σ' H' P.xq _ tk re' (turn m s iv)).mono fun t H1 z => ?_
  obtain ⟨s1, M1, ad1, re1, k⟩ := z
  cases t with
  | true =>
    rw [if_pos rfl] at k ⊢
    refine ⟨NxP F (seen M st.g H) fun s2 => ∃ m', m' < m ∧ Iv m' s2, fun σ2 H2 ⟨s2, M2, sb2, re2, m', hm, iv2⟩ => ⟨m', hm, s2, M2, sb2, re2, iv2⟩, ?_⟩
    have hb' := fun (K : SS W → Prop) (h3 : wpSs Φ bI s1 ⟨K, P.rt, P.nx, K, P.xq⟩) => hb X G F s1 M1 σ' H1 ⟨K, P.rt, P.nx, K, P.xq⟩ tk re1 h3
    refine (hb' _ k).mono ⟨fun σ7 H7 z => ?_, fun _ _ z => z, fun σ7 H7 z => ?_, fun σ7 H7 z => ?_⟩
    · exact z.sub (sb.trans ad1.sub)
    · exact z.sub (sb.trans ad1.sub)
    · exact z.sub (sb.trans ad1.sub)
  | false =>
    rw [if_neg Bool.false_ne_true] at k ⊢
    exact ⟨s1, M1, sb.trans ad1.sub, re1, k⟩
end

/-! ### all statements -/
section
variable {W : Wd} {Φ : Tab W} {T : Env_} {sc : Scope}
theorem lcOk_asg (hΦ : ∀ f F, Φ f = some F → Mono F) {m : Nat} {x : Str} {e : Expr} {ir : E} {i : Nat} {px pos : Pos} (hs : stoC sc x = true) (hl : lcOk sc x px e = true) (hi : ixOf T.N x = some i) (hc : cE T m sc e = some ir) : SndS Φ T sc (.Assign [.Name x px] e pos) (.asg (.nm i) ir) := by
  unfold lcOk at hl
  split at hl
  · rename_i elt gens scope lpos
    simp only [Bool.and_eq_true, Bool.not_eq_true'] at hl
    obtain ⟨⟨l1, l2⟩, l3⟩ := hl
    cases m with
    | zero => cases hc
    | succ m =>
      unfold cE at hc
      dsimp only at hc
      split at hc
      · split at hc
        · rename_i hk
          obtain ⟨rfl, hk, ht, hlen⟩ := hk
          split at hc
          · rename_i h0 h1 h2 h3
            cases hc
            have ih := cE_ok (T := T) hΦ m
            obtain ⟨i1, i2⟩ := cIt_ok ih h1
            exact snd_asgC l1 l2 l3 hi hk h0 i1 (cTs_ok ih hlen ht h2) (ih _ _ _ h3).1 i2
          · cases hc
        · cases hc
      · cases hc
  · exact snd_asg hs hi hl (cE_ok hΦ m _ _ _ hc).1
theorem sw_notTup {ts : List Expr} {k : Nat} {pt : Pos} {e : Expr} (h : notTup e = true) {env : PySem.Env} : swappedStores [.Tuple ts k pt] e env = pure none := by
  cases e <;> first
    | rfl
    | cases h
theorem par_ok (hΦ : ∀ f F, Φ f = some F → Mono F) {m : Nat} {ts vs : List Expr} {k k2 : Nat} {pt p2 pos : Pos} {is : List Nat} {irs : Es} (hp : parOk ts vs = true) (hn : parNames T.N sc ((ts.head?.map (·.pos.line)).getD 0) ts = some is) (hc : cEs (cE T m sc) vs = some irs) (hd : nodupB is = true) :
    SndS Φ T sc (.Assign [.Tuple ts k pt] (.Tuple vs k2 p2) pos) (.par is irs) := by
  have s := cEs_ok (cE_ok (T := T) hΦ m) hc
  have hl : ts.length = 2 ∨ ts.length = 3 := by
    have h := hp
    unfold parOk at h
    simp only [Bool.and_eq_true, Bool.or_eq_true, beq_iff_eq] at h
    exact h.1.1.1.1
  rcases hl with hl | hl
  · match ts, hl, hp, hn with
    | [a, b], _, hp, hn =>
      unfold parNames at hn
      split at hn
      · first | contradiction | cases hn
      · rename_i x px r q
        injection q with q1 q2
        subst q1
        subst q2
        split at hn
        · rename_i h1
          split at hn
          · rename_i i is' hi hr
            cases hn
            unfold parNames at hr
            split at hr
            · first | contradiction | cases hr
            · rename_i y py r q
              injection q with q1 q2
              subst q1
              subst q2
              split at hr
              · rename_i h2
                split at hr
                · rename_i j is'' hj hr2
                  cases hr
                  unfold parNames at hr2
                  cases hr2
                  have hij : i ≠ j := by
                    intro e
                    subst e
                    simp [nodupB] at hd
                  exact snd_par2 h1.1 h2.1 h2.2 hi hj hij hp s
                · first | contradiction | cases hr
              · first | contradiction | cases hr
            · first | contradiction | cases hr
          · first | contradiction | cases hn
        · first | contradiction | cases hn
      · first | contradiction | cases hn
  · match ts, hl, hp, hn with
    | [a, b, c], _, hp, hn =>
      unfold parNames at hn
      split at hn
      · first | contradiction | cases hn
      · rename_i x px r q
        injection q with q1 q2
        subst q1
        subst q2
        split at hn
        · rename_i h1
          split at hn
          · rename_i i is' hi hr
            cases hn
            unfold parNames at hr
            split at hr
            · first | contradiction | cases hr
            · rename_i y py r q
              injection q with q1 q2
              subst q1
              subst q2
              split at hr
              · rename_i h2
                split at hr
                · rename_i j is'' hj hr2
                  cases hr
                  unfold parNames at hr2
                  split at hr2
                  · first | contradiction | cases hr2
                  · rename_i z pz r q
                    injection q with q1 q2
                    subst q1
                    subst q2
                    split at hr2
                    · rename_i h3
                      split at hr2
                      · rename_i l is3 hk hr3
                        cases hr2
                        unfold parNames at hr3
                        cases hr3
                        simp [nodupB] at hd
                        exact snd_par3 h1.1 h2.1 h3.1 h2.2 h3.2 hi hj hk hd.1.1 hd.1.2 hd.2 hp s
                      · first | contradiction | cases hr2
                    · first | contradiction | cases hr2
                  · first | contradiction | cases hr2
                · first | contradiction | cases hr
              · first | contradiction | cases hr
            · first | contradiction | cases hr
          · first | contradiction | cases hn
        · first | contradiction | cases hn
      · first | contradiction | cases hn
mutual
theorem cS_ok (hΦ : ∀ f F, Φ f = some F → Mono F) (m : Nat) : ∀ (n : Nat) {s : Stmt} {ir : Stm}, cS T m sc n s = some ir → SndS Φ T sc s ir
  | 0, _, _, h => by
    unfold cS at h
    cases h
  | n + 1, s, ir, h => by
    have all := cE_ok (Φ := Φ) (T := T) hΦ m
    unfold cS at h
    split at h
    · split at h
      · rename_i hs
        split at h
        · rename_i h1 h2
          cases h
          exact lcOk_asg hΦ hs.1 hs.2 h1 h2
        · cases h
      · cases h
    · split at h
      · rename_i hp
        split at h
        · rename_i h1 h2
          split at h
          · rename_i hd
            cases h
            exact par_ok hΦ hp.1 h1 h2 hd
          · cases h
        · cases h
      · split at h
        · rename_i hg
          split at h
          · rename_i h1 h2
            cases h
            exact snd_asgT h1 rfl (fun X hk he => par_none hk (by rw [he]; exact hg)) (all _ _ _ h2).1
          · cases h
        · cases h
    · split at h
      · rename_i hs
        split at h
        · rename_i h1 h2
          cases h
          exact snd_asgT h1 hs.2 (fun X hk _ => sw_notTup hs.1) (all _ _ _ h2).1
        · cases h
      · cases h
    · split at h
      · rename_i hs
        split at h
        · rename_i h1 h2 h3
          cases h
          exact snd_setI h1 hs.2.2.1 hs.1 hs.2.1 hs.2.2.2.1 hs.2.2.2.2 (all _ _ _ h2).1 (all _ _ _ h3).1
        · cases h
      · cases h
    · split at h
      · rename_i hs
        split at h
        · rename_i h1 h2 h3
          cases h
          exact snd_aug hs h1 h2 (all _ _ _ h3).1
        · cases h
      · cases h
    · cases h
      exact snd_doc
    · split at h
      · rename_i hs
        obtain ⟨d, h1, rfl⟩ := map_some h
        exact snd_expr hs (all _ _ _ h1).1
      · cases h
    · obtain ⟨d, h1, rfl⟩ := map_some h
      obtain ⟨q1, q2, _⟩ := all _ _ _ h1
      exact snd_ret q1 q2
    · cases h
      exact snd_ret0
    · split at h
      · rename_i ht
        split at h
        · rename_i h1 h2 h3
          cases h
          exact snd_ifS ((all _ _ _ h1).2.2 _ ht) (cSs_ok hΦ m n h2) (cSs_ok hΦ m n h3)
        · cases h
      · cases h
    · split at h
      · rename_i h1 h2 h3
        cases h
        obtain ⟨i1, i2⟩ := cIt_ok all h2
        exact snd_for h1 i1 i2 (cSs_ok hΦ m n h3)
      · cases h
    · split at h
      · rename_i ht
        split at h
        · rename_i h1 h2
          cases h
          exact snd_whl ((all _ _ _ h1).2.2 _ ht) (cSs_ok hΦ m n h2)
        · cases h
      · cases h
    · cases h
      exact snd_brk
    · cases h
      exact snd_cnt
    · cases h
      exact snd_pass
    · cases h
theorem cSs_ok (hΦ : ∀ f F, Φ f = some F → Mono F) (m : Nat) : ∀ (n : Nat) {s : List Stmt} {ir : List Stm}, cSs T m sc n s = some ir → SndSs Φ T sc s ir
  | 0, _, _, h => by
    unfold cSs at h
    cases h
  | n + 1, s, ir, h => by
    unfold cSs at h
    split at h
    · cases h
      exact snd_nil
    · split at h
      · rename_i h1 h2
        cases h
        exact snd_cons (cS_ok hΦ m n h1) (cSs_ok hΦ m n h2)
      · cases h
end
end
end PD
/-! PD16: contracts of defs from their bodies. -/
namespace PD
open PySem L2 PySem.Spec PyProof.Rows
section
variable {W : Wd} {P : Program} {w : World} {K : PySem.W.Frag} {mg : Str → Option Value} {base : Heap}

theorem RepAll.get {S : Hp} : ∀ {vs : List V} {xs : List SV} {i : Nat} {x : SV}, RepAll S vs xs → xs[i]? = some x → ∃ v, vs[i]? = some v ∧ RepSV S v x
  | _, _, _, _, .nil, e => by simp at e
  | _, _, 0, _, .cons r _, e => by
    simp at e
    subst e
    exact ⟨_, rfl, r⟩
  | _, _, i + 1, x, .cons _ t, e => by
    obtain ⟨v, h1, h2⟩ := RepAll.get (i := i) (x := x) t (by simpa using e)
    exact ⟨v, by simpa using h1, h2⟩
/-- a body that ends as it should at each call ends the call as it should -/
theorem fnG_of {k : Nat} {f : Addr} {name qual : Str} {params : Arguments} {body : List Stmt} {scope : Scope} {dV kV doc pm cdv ct oc : Value} {an od : Option Addr} {osl : Array (Option Value)} {N ps : List Str} {sp : Sp}
    (found : K.lookup f = some ⟨oc, od, .func (PySem.W.fnOf name qual params body scope dV kV doc pm an cdv ct), osl⟩) (code : PySem.W.codeIn K cdv qual = true) (Sc : FnScope N ps scope)
    (len : ∀ vs H Q E, sp vs H Q E → vs.length = ps.length)
    (go : ∀ (A : Around) (out : List Env) (s : Shared) (H : Hp) (vs : List V) (Q : VK) (E : XK), Room k (A.deeper (envOfC qual scope s.heap.objs.size f cdv)) → A.guards = some [] → sp vs H Q E →
      PSsat (cxOf (L2.CX P w) P w K mg base N qual scope f cdv A out s H E) body { nx := fun _ H' => Q .non H', rt := Q } (L2.start N vs) H) :
    FnG P w K mg base (k + 1) f (PySem.W.fnOf name qual params body scope dV kV doc pm an cdv ct) ps sp := by
  refine ⟨len, fun A out s H args us vs Q E room gd env0 bind rel hsp => ?_⟩
  have hlen := len _ _ _ _ hsp
  have kin : K.In s.heap := env0.mod.kin.keeps fun b o e => (env0.bs b o e).1
  have nolim : s.heap.NoLimit := env0.mod.nolimit.keeps fun b o e => (env0.bs b o e).1
  have kinds : ∀ z ∈ ps.zip us, scope.names.lookup z.1 = some .local ∨
      (scope.names.lookup z.1 = some .cell ∧ ((cellsFrom (s.heap.objs.size + 1) scope.names []).lookup z.1).isSome = true) := by
    rintro ⟨n, v⟩ hz
    have hz := (List.of_mem_zip hz).1
    exact (Sc.par n hz).imp id fun q => ⟨q, PySem.W.cellsFrom_some _ _ _ (.inl q)⟩
  refine codeAny_call_function room.depth (kin _ _ found) rfl Sc.co Sc.gen rfl (PySem.W.codeRec_of kin code)
    (bind _ _ _ _ (wpAny_newFunctionEnv_cells Sc.kind kinds fun env hE s1 x => ?_))
  subst hE
  refine ⟨nolim.keeps x.toInCall.keep, codeAny_func ?_⟩
  have I := inv_start (CX := L2.CX P w) (E := E) (H := H) Sc room.hd env0 hlen rel x
  refine wpAny_mono (go A out s H vs Q E (room.deeper _) gd hsp [] s1 I) (fun fl s' hs => ?_) fun e s' hs => hs
  cases fl with
  | ret u =>
    obtain ⟨v, σ', H', J, rv, q⟩ := hs
    exact ⟨v, H', J.os, J.bare, J.base, J.hok, rv, q⟩
  | next =>
    obtain ⟨σ', H', J, q⟩ := hs
    exact ⟨V.non, H', J.os, J.bare, J.base, J.hok, rfl, q⟩
  | brk =>
    obtain ⟨_, _, _, q⟩ := hs
    exact q.elim
  | cont =>
    obtain ⟨_, _, _, q⟩ := hs
    exact q.elim

/-! ### defs by their meaning -/
/-- what a body says of the parameters' values -/
def bodyFn (Φ : Tab W) (N : List Str) (n : Nat) (b : List Stm) : Fn W := fun xs g R Ex => xs.length = n ∧
  wpSs Φ b ⟨xs.map Sl.val ++ List.replicate (N.length - xs.length) Sl.un, g⟩ ⟨fun st => R (.v (.d .none)) st.g, fun r st => R r st.g, fun _ => False, fun _ => False, fun x st => Ex x st.g⟩
/-- the defs that stand -/
def RealT (P : Program) (w : World) (K : PySem.W.Frag) (mg : Str → Option Value) (base : Heap) (k : Nat) (Φ : Tab W) : Prop := ∀ x F, Φ x = some F → Mono F ∧ ∃ (f : Addr) (fd : FuncData) (ps : List Str),
  (∀ (xs : List SV) (g : W.T) (R : Rs → W.T → Prop) (Ex : Exn → W.T → Prop), F xs g R Ex → xs.length = ps.length) ∧ FnG P w K mg base k f fd ps (spOf mg ps.length F) ∧ mg x = some (.ref f) ∧ PySem.W.keepIn K (.ref f) = true ∧ Binds K fd ps []
theorem FnG.mono {j k : Nat} {f : Addr} {fd : FuncData} {ps : List Str} {sp : Sp} (F : FnG P w K mg base j f fd ps sp) (h : j ≤ k) : FnG P w K mg base k f fd ps sp := ⟨F.len, fun A out s H args us vs Q E hr => F.run A out s H args us vs Q E (hr.mono h)⟩
theorem RealT.mono {j k : Nat} {Φ : Tab W} (h : RealT P w K mg base j Φ) (l : j ≤ k) : RealT P w K mg base k Φ := fun x F e => by
  obtain ⟨m, f, fd, ps, h1, h2, h3⟩ := h x F e
  exact ⟨m, f, fd, ps, h1, h2.mono l, h3⟩
/-- the module's names: constants; no name of a built-in is taken -/
structure ModOk (mg : Str → Option Value) (cs : Str → Option D) : Prop where
  bl : ∀ x ∈ bNames, mg x = none
  cst : ∀ x d, cs x = some d → ∃ u v, mg x = some u ∧ RelV v u ∧ ∀ S, Rp S v d
theorem def_fnG {k : Nat} {f : Addr} {name qual : Str} {params : Arguments} {body : List Stmt} {scope : Scope} {dV kV doc pm cdv ct oc : Value} {an od : Option Addr} {osl : Array (Option Value)} {N ps : List Str} {Φ : Tab W} {cs : Str → Option D} {m n : Nat} {ir : List Stm} {F : Fn W}
    (found : K.lookup f = some ⟨oc, od, .func (PySem.W.fnOf name qual params body scope dV kV doc pm an cdv ct), osl⟩) (code : PySem.W.codeIn K cdv qual = true) (Sc : FnScope N ps scope) (md : ModOk mg cs) (rl : RealT P w K mg base k Φ)
    (hc : cSs ⟨N, cs, fun x => (Φ x).isSome⟩ m scope n body = some ir) (hF : ∀ xs g R Ex, F xs g R Ex → bodyFn Φ N ps.length ir xs g R Ex) :
    FnG P w K mg base (k + 1) f (PySem.W.fnOf name qual params body scope dV kV doc pm an cdv ct) ps (spOf mg ps.length F) := by
  refine fnG_of found code Sc (fun vs H Q E ⟨_, _, _, h, _⟩ => h) fun A out s H vs Q E room gd sp => ?_
  obtain ⟨M, g, xs, hn, hM, hR, rp, hf⟩ := sp
  obtain ⟨hl, hw⟩ := hF _ _ _ _ hf
  have hΦ : ∀ f F, Φ f = some F → Mono F := fun f F e => (rl f F e).1
  have hv := rp.length
  have good : GoodS Φ ⟨N, cs, fun x => (Φ x).isSome⟩ (cxOf (L2.CX P w) P w K mg base N qual scope f cdv A out s H E) scope := by
    refine ⟨⟨rfl, rfl, rfl, Sc.nd, gd, ?_, md.bl, fun x F e => ?_, md.cst, fun x h => ?_⟩, fun x h => ?_, L2.passes_of rfl, Sc.kind⟩
    · have := room.un
      show (A.deeper (envOfC qual scope s.heap.objs.size f cdv)).units + 66 < cLine
      omega
    · obtain ⟨m0, f0, fd0, ps0, h1, h2, h3, h4, h5⟩ := rl x F e
      exact ⟨m0, k, f0, fd0, ps0, h1, h2, room, h3, h4, h5⟩
    · exact Option.isSome_iff_exists.mp h
    · unfold stoC at h
      split at h
      · rename_i q
        exact ⟨.inl q, .inl rfl⟩
      · rename_i q
        exact ⟨.inr q, .inl rfl⟩
      · cases h
  have hN : vs.length ≤ N.length := by
    have := congrArg List.length Sc.pre
    rw [List.length_take] at this
    omega
  have rel : Rel (W := W) ⟨H, g, M⟩ ⟨xs.map Sl.val ++ List.replicate (N.length - xs.length) Sl.un, g⟩ M (L2.start N vs) H := by
    have own : ∀ (i : Nat) (y : D), (xs.map Sl.val ++ List.replicate (N.length - xs.length) Sl.un)[i]? ≠ some (.own y) := fun i y e => by
      have := List.mem_of_getElem? e
      rw [List.mem_append, List.mem_map, List.mem_replicate] at this
      rcases this with ⟨_, _, e⟩ | ⟨_, e⟩ <;> cases e
    refine ⟨?_, hR, Grow.refl _ _, hM, fun _ h => h, hM, fun i y e => ?_, fun i j y z a e1 => absurd e1 (own i y)⟩
    · unfold L2.start
      simp [hv]
    · cases y with
      | un => exact True.intro
      | own y => exact absurd e (own i y)
      | val y =>
        have e : (xs.map Sl.val ++ List.replicate (N.length - xs.length) Sl.un)[i]? = some (.val y) := e
        by_cases hi : i < xs.length
        · rw [List.getElem?_append_left (by simpa using hi), List.getElem?_map] at e
          cases q : xs[i]? with
          | none => rw [q] at e; cases e
          | some x =>
            rw [q] at e
            cases e
            obtain ⟨v, h1, h2⟩ := rp.get q
            refine ⟨v, ?_, h2⟩
            unfold L2.start
            rw [List.getElem?_append_left (by simpa [hv] using hi), List.getElem?_map, h1]
            rfl
        · rw [List.getElem?_append_right (by simpa using hi), List.getElem?_replicate] at e
          split at e <;> cases e
  have tk : Takes (cxOf (L2.CX P w) P w K mg base N qual scope f cdv A out s H E) (XPost ⟨H, g, M⟩ mg fun x st => ∀ c d H', Grow g H st.g H' → W.R st.g H' → ExRep mg (seen M st.g H') c d x → E c d H') := by
    refine Takes.imp (L2.takes_of rfl rfl rfl rfl) fun c d σ' H' z => ?_
    obtain ⟨x, st, M', re, xr, q⟩ := z
    refine q c d H' re.gr re.R ?_
    obtain ⟨h1, dd, fs, h2, h3, h4, h5⟩ := xr
    have sb : Sub (seen M' st.g H') (seen M st.g H') := seen_mono re.m0
    exact ⟨h1, dd, fs, h2, sb _ _ h3, h4, h5.sub sb⟩
  refine (cSs_ok hΦ m n hc _ good ⟨H, g, M⟩ _ M (L2.start N vs) H ⟨_, _, _, _, fun x st => ∀ c d H', Grow g H st.g H' → W.R st.g H' → ExRep mg (seen M st.g H') c d x → E c d H'⟩ tk rel hw).mono ⟨fun σ' H' z => ?_, fun v H' z => ?_, fun σ' H' z => ?_, fun σ' H' z => ?_⟩
  · obtain ⟨st', M', _, re, q⟩ := z
    exact q .non H' re.gr re.R .non
  · obtain ⟨r, st', gr, hr, rr, q⟩ := z
    exact q v H' gr hr rr
  · obtain ⟨_, _, _, _, q⟩ := z
    exact q.elim
  · obtain ⟨_, _, _, _, q⟩ := z
    exact q.elim
end
end PD
/-! PD17: the world of a law: its script, its bag; the law's own call. -/
namespace PD
open PySem L2 PySem.Spec PyProof.Rows

/-- the script's place and numbers; is it a frozen object; the bag's list and the list within -/
structure Bg where
  a : Addr
  ns : List Int
  fz : Bool
  bag : Option (Addr × Addr)
def bgFoot (g : Bg) (b : Addr) : Bool := (g.fz && b == g.a) || (match g.bag with
  | some (p, q) => b == p || b == q
  | none => false)
def BagAt (H : Hp) (p q : Addr) : Prop := p ≠ q ∧ ∃ (b0 b1 b2 : Int) (cs : List Int), H p = some (.lst [.int b0, .int b1, .int b2, .ref q]) ∧ H q = some (.lst (cs.map V.int)) ∧ cs.length ≤ 63
def ScrAt (K : PySem.W.Frag) (g : Bg) (H : Hp) : Prop := if g.fz = true then ∃ o, H g.a = some (.frz o (.lst (g.ns.map V.int))) else SqL K (fun _ => none) g.a (g.ns.map V.int)
def bgR (K : PySem.W.Frag) (g : Bg) (H : Hp) : Prop := ScrAt K g H ∧ match g.bag with
  | some (p, q) => BagAt H p q
  | none => True
theorem foot_scr {g : Bg} (h : g.fz = true) : bgFoot g g.a = true := by simp [bgFoot, h]
def WK (K : PySem.W.Frag) : Wd where
  T := Bg
  Foot := bgFoot
  R := bgR K
  loc := fun g H H' r h => by
    obtain ⟨r1, r2⟩ := r
    refine ⟨?_, ?_⟩
    · unfold ScrAt at r1 ⊢
      split at r1
      · rename_i e
        rw [if_pos e, h _ (foot_scr e)]
        exact r1
      · rename_i e
        rw [if_neg e]
        exact r1
    · cases q : g.bag with
      | none => exact True.intro
      | some pq =>
        obtain ⟨p, q'⟩ := pq
        rw [q] at r2
        obtain ⟨n, b0, b1, b2, cs, e1, e2, e3⟩ := r2
        refine ⟨n, b0, b1, b2, cs, ?_, ?_, e3⟩
        · rw [h p (by simp [bgFoot, q])]; exact e1
        · rw [h q' (by simp [bgFoot, q])]; exact e2
  there := fun g H b r h => by
    obtain ⟨r1, r2⟩ := r
    unfold bgFoot at h
    rw [Bool.or_eq_true] at h
    rcases h with h | h
    · rw [Bool.and_eq_true] at h
      obtain ⟨h1, h2⟩ := h
      have h2 := eq_of_beq h2
      subst h2
      unfold ScrAt at r1
      rw [if_pos h1] at r1
      obtain ⟨o, e⟩ := r1
      rw [e]
      simp
    · split at h
      · rename_i p q e
        rw [e] at r2
        obtain ⟨n, b0, b1, b2, cs, e1, e2, e3⟩ := r2
        rw [Bool.or_eq_true] at h
        rcases h with h | h
        · rw [eq_of_beq h, e1]; simp
        · rw [eq_of_beq h, e2]; simp
      · cases h

section
variable {K : PySem.W.Frag}
theorem scr_sq {g : Bg} {H : Hp} (r : ScrAt K g H) : SqL K H g.a (g.ns.map V.int) := by
  unfold ScrAt at r
  split at r
  · obtain ⟨o, e⟩ := r
    exact .inl (.inr ⟨o, e⟩)
  · rcases r with r | r
    · rcases r with r | ⟨o, r⟩ <;> cases r
    · exact .inr r

/-- the law's promise: asked with the script, it says True -/
def lawFn : Fn (WK K) := fun xs g R _ => xs = [.r (V.ref g.a)] ∧ g.bag = none ∧ g.ns.length ≤ 63 ∧ ∀ g', R (.v (.d (.bool true))) g'
theorem lawFn_sp {mg : Str → Option Value} {H : Hp} {a : Addr} {ns : List Int} (hl : ns.length ≤ 63) (only : Only H) (hS : SqL K H a (ns.map V.int)) (nl : ∀ b xs, H b ≠ some (.lst xs)) : spOf mg 1 (lawFn (K := K)) [.ref a] H (fun v _ => v = .bl true) fun _ _ _ => False := by
  have base : ∀ fz : Bool, ScrAt K ⟨a, ns, fz, none⟩ H → spOf mg 1 (lawFn (K := K)) [.ref a] H (fun v _ => v = .bl true) fun _ _ _ => False := fun fz r => by
    refine ⟨fun _ => false, ⟨a, ns, fz, none⟩, [.r (.ref a)], rfl, (fun b h => nomatch h), ⟨r, True.intro⟩, .cons rfl .nil, rfl, rfl, hl, fun g' v H' _ _ rr => ?_⟩
    have rr : Rp _ v (.bool true) := rr
    cases rr
    rfl
  rcases hS with (h | ⟨o, h⟩) | h
  · exact absurd h (nl _ _)
  · exact base true (by unfold ScrAt; rw [if_pos rfl]; exact ⟨o, h⟩)
  · exact base false (by unfold ScrAt; rw [if_neg Bool.false_ne_true]; exact .inr h)

/-! ### the law's own call, from the top -/
theorem law_go {P : Program} {w : World} {mg mb : Str → Option Value} {k : Nat} {fa a : Addr} {fd : FuncData} {x : Str} {s1 : Shared} {vals : List Value} {ns : List Int}
    (kin : K.In s1.heap) (glob : s1.heap.Ns mainGlobals mg) (bl : s1.heap.Ns builtinsNs mb) (blok : ∀ y : Str, y ≠ "__name__" → mb y = bootBuiltins y) (nolim : s1.heap.NoLimit) (nogen : s1.gens = #[])
    (scr : s1.heap.get? a = some { cls := .type "list", data := .seq vals.toArray }) (whole : IntsAre vals ns) (short : ns.length ≤ 63) (room : Room k callerA)
    (fn : ∀ base : Heap, K.In base → base.Ns mainGlobals mg → FnG P w K mg base k fa fd [x] (spOf mg 1 (lawFn (K := K)))) (binds : ∀ (s : Shared) (u : Value), BindsTo s fd ⟨[u], []⟩ [(x, u)]) :
    codeAny (model P w) callerA (.call (.ref fa) ⟨[.ref a], []⟩) (fun r s' => r = .ok (.ret (.bool true)) ∧ OldK s1.heap s'.heap ∧ s'.os = s1.os ∧ AllBare s'.gens) s1 := by
  have rel := vals_ints whole
  have lenI := whole.length
  have sizes : ns.length ≤ sizeLine := Nat.le_trans short (by decide)
  -- what is tracked: nothing, or the script alone, as it stands
  have main : ∀ H : Hp, Only H → SqL K H a (ns.map V.int) → HOk P w H s1.heap → (∀ c, H c ≠ none → c = a ∧ K.lookup a = none) → (∀ c ys, H c ≠ some (.lst ys)) →
      codeAny (model P w) callerA (.call (.ref fa) ⟨[.ref a], []⟩) (fun r s' => r = .ok (.ret (.bool true)) ∧ OldK s1.heap s'.heap ∧ s'.os = s1.os ∧ AllBare s'.gens) s1 := by
    intro H only sq hok at_ nolst
    have keepsDict : ∀ {c : Addr} {o : Obj} {es : Array DictEntry} {ep : Nat}, s1.heap.get? c = some o → o.data = .dict es ep → H c = none := by
      intro c o es ep e d
      cases z : H c with
      | none => rfl
      | some u =>
        have := (at_ c (by rw [z]; simp)).1
        subst this
        rw [scr] at e
        cases e
        cases d
    have ns' : ∀ {c : Addr} {m : Str → Option Value}, s1.heap.Ns c m → (hidT s1.heap H).Ns c m := by
      rintro c m ⟨o, es, ep, e, d, r⟩
      exact ⟨o, es, ep, hidT_get e (keepsDict e d), d, r⟩
    have kin' : K.In (hidT s1.heap H) := by
      intro c o e
      refine hidT_get (kin c o e) ?_
      cases z : H c with
      | none => rfl
      | some u =>
        obtain ⟨h1, h2⟩ := at_ c (by rw [z]; simp)
        subst h1
        rw [h2] at e
        cases e
    obtain ⟨mc, l1, l2⟩ := nolim
    have env0 : Env0 P w K mg (hidT s1.heap H) callerA [] s1 H :=
      ⟨rfl, ⟨kin', ns' glob, ⟨mb, ns' bl, blok⟩, mc, ns' l1, l2⟩, fun c o e => of_hidT e, Nat.le_of_eq (hidT_size _ _), trivial, (fun c hc => nomatch hc), hok, .of_eq nogen⟩
    refine codeAny_mono ((fn _ kin' (ns' glob)).run callerA [] s1 H ⟨[.ref a], []⟩ [.ref a] [.ref a] _ _ room rfl env0 (binds s1 _) (.cons rfl .nil) (lawFn_sp short only sq nolst)) fun r s' h => ?_
    cases r with
    | error e =>
      obtain ⟨_, _, _, _, _, _, _, _, _, _, _, _, z⟩ := h
      exact z.elim
    | ok fl =>
      cases fl with
      | next => exact h.elim
      | brk => exact h.elim
      | cont => exact h.elim
      | ret u =>
        obtain ⟨v, H', os, bare, un, hok', rv, q⟩ := h
        have q : v = .bl true := q
        subst q
        obtain rfl : u = Value.bool true := rv
        refine ⟨rfl, OldK.of_keep fun c o e => ?_, os, bare⟩
        rcases only c with z | ⟨oc, ys, z⟩
        · exact un.keep c o e z (by simp [frs]) (by simp)
        · obtain ⟨e1, _⟩ := hok c _ z
          obtain ⟨e2, _⟩ := hok' c _ (un.frzs c oc _ z)
          rw [e] at e1
          cases e1
          exact e2
  cases hk : K.lookup a with
  | some o =>
    have e := kin a o hk
    rw [scr] at e
    cases e
    refine main (fun _ => none) (fun _ => .inl rfl) (.inr ⟨_, vals.toArray, _, hk, rfl, rfl, rfl, ?_, ?_⟩) (fun c u z => nomatch z) (fun c z => (z rfl).elim) fun c ys z => nomatch z
    · rw [List.size_toArray, lenI]
      exact sizes
    · simpa using rel
  | none =>
    let ob : Obj := { cls := .type "list", data := .seq vals.toArray }
    have here : ∀ c, (if c = a then some (HO.frz ob (.lst (ns.map V.int))) else none) ≠ none → c = a := fun c h => by
      by_cases z : c = a
      · exact z
      · rw [if_neg z] at h
        exact (h rfl).elim
    refine main (fun c => if c = a then some (.frz ob (.lst (ns.map V.int))) else none) (fun c => ?_) (.inl (.inr ⟨ob, if_pos rfl⟩)) (fun c u z => ?_) (fun c z => ⟨here c z, hk⟩) fun c ys z => ?_
    · by_cases z : c = a
      · exact .inr ⟨_, _, if_pos z⟩
      · exact .inl (if_neg z)
    · have z : (if c = a then some (HO.frz ob (.lst (ns.map V.int))) else none) = some _ := z
      have hc := here c (by rw [z]; simp)
      subst hc
      rw [if_pos rfl] at z
      cases z
      refine ⟨scr, ?_, vals, _, rel, scr⟩
      rw [List.length_map]
      exact sizes
    · have z : (if c = a then some (HO.frz ob (.lst (ns.map V.int))) else none) = some _ := z
      have hc := here c (by rw [z]; simp)
      subst hc
      rw [if_pos rfl] at z
      cases z
end
end PD
/-! PD18: the bag. -/
namespace PD
open PySem L2 PySem.Spec PyProof.Rows

/-! ### pure expressions over a heap that nobody shares -/
abbrev W0 : Wd where
  T := Unit
  Foot := fun _ _ => false
  R := fun _ _ => True
  loc := fun _ _ _ _ _ => True.intro
  there := fun _ _ _ _ h => nomatch h
def F0 (H : Hp) : Frm W0 := ⟨H, (), fun _ => false⟩
def noT : Tab W0 := fun _ => none
theorem seen0 (H : Hp) : seen (W := W0) (fun _ => false) () H = H := rfl
structure ValRep (σ : L2.St) (H : Hp) (sl : List Sl) : Prop where
  len : sl.length = σ.length
  val : ∀ (i : Nat) (x : SV), sl[i]? = some (.val x) → ∃ v, σ[i]? = some (some v) ∧ RepSV H v x
  own : ∀ (i : Nat) (y : D), sl[i]? ≠ some (.own y)
section
variable {T : Env_} {X : Cx} {sc : Scope} {σ : L2.St} {H : Hp} {sl : List Sl}
theorem ValRep.rel (r : ValRep σ H sl) : Rel (W := W0) (F0 H) ⟨sl, ()⟩ (fun _ => false) σ H := by
  refine ⟨r.len, True.intro, Grow.refl _ _, (fun _ h => nomatch h), fun _ h => h, (fun _ h => nomatch h), fun i x e => ?_, fun i j y z a e => absurd e (r.own i y)⟩
  cases x with
  | un => exact True.intro
  | own y => exact absurd e (r.own i y)
  | val x =>
    obtain ⟨v, h1, h2⟩ := r.val i x e
    exact ⟨v, h1, h2⟩
theorem takesX {W : Wd} {F : Frm W} : Takes X (XPost F X.mg noX) := fun u s' x => by
  obtain ⟨_, _, _, _, _, _, _, _, _, _, _, _, _, _, _, _, z⟩ := x
  obtain ⟨_, _, _, _, _, z⟩ := z
  exact z.elim
theorem pure_ev {e : Expr} {ir : E} (hE : SndE noT T sc e ir) (G : Good noT T X sc) (r : ValRep σ H sl) {Q : D → Prop} (h : wpE noT ir noX ⟨sl, ()⟩ fun x _ => ∃ d, x.sv = .d d ∧ Q d) : PEat X e σ H fun v H1 => Sub H H1 ∧ ∃ d, Rp H1 v d ∧ Q d := by
  refine (snd_val (K := fun x _ => ∃ d, x = .d d ∧ Q d) hE G takesX r.rel h).mono fun v H1 z => ?_
  obtain ⟨x, st', M', ad, re', rp, d, rfl, q⟩ := z
  exact ⟨ad.sub.trans seen_sub, d, Rp.sub seen_sub _ _ rp, q⟩
theorem pure_tt {e : Expr} {ir : E} (hE : SndT noT T sc e ir) (G : Good noT T X sc) (r : ValRep σ H sl) {Q : Bool → Prop} (h : wpT noT ir noX ⟨sl, ()⟩ fun b _ => Q b) : PTat X e σ H fun b H1 => Sub H H1 ∧ Q b := by
  refine (hE X G _ _ _ σ H noX _ takesX r.rel h).mono fun b H1 z => ?_
  obtain ⟨st', M', ad, re', q⟩ := z
  exact ⟨ad.sub.trans seen_sub, q⟩

/-! ### statements, the names' places in hand -/
theorem step_set {x : Str} {e : Expr} {i : Nat} {px pos : Pos} {D : Ends} {W : Wd} {Φ : Tab W} (G : GoodS Φ T X sc) (hs : stoC sc x = true) (hi : ixOf T.N x = some i) (hn : notComp e = true) (h : PEat X e σ H fun v H1 => D.nx (σ.set i (some v)) H1) : PSat X (.Assign [.Name x px] e pos) D σ H := by
  obtain ⟨l1, l2⟩ := G.sto x hs
  exact PSat.of (ps_set (i := i) (by rw [G.g.N]; exact G.g.nd) (by rw [G.g.N]; exact ixOf_get hi) l1 pe_at (sw_off hn) l2) h
theorem get_list : PGet X (fun o i H Q => ∃ p xs k z, o = .ref p ∧ i = .int k ∧ H p = some (.lst xs) ∧ 0 ≤ k ∧ k < 2 ^ 63 ∧ xs[k.toNat]? = some z ∧ Q z H) := by
  intro pins s σ H o i ov iv Q I ro ri h
  obtain ⟨p, xs, k, z, rfl, rfl, hp, h0, h1, hz, q⟩ := h
  cases ro
  obtain ⟨t, rfl⟩ := ri
  obtain ⟨its, r, pl, _⟩ := I.list (SqL.of hp)
  obtain ⟨w, ew, rw'⟩ := r.get hz
  exact wpAny_getItem_list pl.isList h0 h1 (by simpa using ew) ⟨z, H, I, rw', q⟩
/-- o[k] += e -/
theorem step_aug {o k e : Expr} {tp pos : Pos} {D : Ends} (hk : notSlice k = true) (h : PEat X o σ H fun ov H1 => PEat X k σ H1 fun kv H2 => ∃ p xs i z, ov = .ref p ∧ kv = .int i ∧ H2 p = some (.lst xs) ∧ 0 ≤ i ∧ i < 2 ^ 63 ∧ xs[i.toNat]? = some (.int z) ∧
      PEat X e σ H2 fun y H3 => ∃ j ys l, y = .int j ∧ H3 p = some (.lst ys) ∧ ixN ys.length i = some l ∧ D.nx σ (upd H3 p (.lst (ys.set l (.int (z + j)))))) : PSat X (.AugAssign (.Subscript o k tp) .Add e pos) D σ H := by
  refine PSat.of (ps_augS pe_at pe_at get_list pe_at ip_add set_list (fun ov iv new => ?_)) ?_
  · cases k <;> first
      | rfl
      | cases hk
  · refine h.mono fun ov H1 h => h.mono fun kv H2 h => ?_
    obtain ⟨p, xs, i, z, rfl, rfl, h1, h2, h3, h4, h5⟩ := h
    refine ⟨p, xs, i, .int z, rfl, rfl, h1, h2, h3, h4, h5.mono fun y H3 h => ?_⟩
    obtain ⟨j, ys, l, rfl, e1, e2, q⟩ := h
    exact ⟨z, j, rfl, rfl, p, ys, i, l, rfl, rfl, e1, e2, q⟩
/-- o[k] = e -/
theorem step_put {o k e : Expr} {tp pos : Pos} {D : Ends} (hk : notSlice k = true) (hn : notComp e = true) (h : PEat X e σ H fun v H1 => PEat X o σ H1 fun ov H2 => PEat X k σ H2 fun kv H3 => ∃ p ys i l, ov = .ref p ∧ kv = .int i ∧ H3 p = some (.lst ys) ∧ ixN ys.length i = some l ∧ D.nx σ (upd H3 p (.lst (ys.set l v)))) :
    PSat X (.Assign [.Subscript o k tp] e pos) D σ H := by
  refine PSat.of (ps_asg pe_at (pg_sub pe_at pe_at set_list (fun v => ?_)) (sw_offS hn) asg_sub) ?_
  · cases k <;> first
      | rfl
      | cases hk
  · exact h.mono fun v H1 h => h.mono fun ov H2 h => h.mono fun kv H3 h => by
      obtain ⟨p, ys, i, l, rfl, rfl, e1, e2, q⟩ := h
      exact ⟨p, ys, i, l, rfl, rfl, e1, e2, q⟩
theorem step_if {c : Expr} {a b : List Stmt} {pos : Pos} {D : Ends} (h : PTat X c σ H fun t H1 => if t = true then PSsat X a D σ H1 else PSsat X b D σ H1) : PSat X (.If c a b pos) D σ H := PSat.of (ps_if pt_at pss_at pss_at) h
theorem step_ret {e : Expr} {pos : Pos} {D : Ends} (h : PEat X e σ H D.rt) : PSat X (.Return (some e) pos) D σ H := PSat.of (ps_ret pe_at) h
theorem steps {s : Stmt} {r : List Stmt} {D : Ends} (h : PSat X s { D with nx := PSsat X r D } σ H) : PSsat X (s :: r) D σ H := PSsat.of (pss_cons ps_at pss_at) h
theorem steps0 {D : Ends} (h : D.nx σ H) : PSsat X [] D σ H := PSsat.of pss_nil h
end

/-! ### the bag's own def that takes -/
def BL (b0 b1 b2 : Int) (cs : List Int) : D := .list [.int b0, .int b1, .int b2, .list (cs.map .int)]
def slO : Option Int → Sl
  | none => .un
  | some z => .val (.d (.int z))
def sl7 (b0 b1 b2 : Int) (cs : List Int) (n : Int) (l : List (Option Int)) : List Sl := .val (.d (BL b0 b1 b2 cs)) :: .val (.d (.int n)) :: l.map slO
def σ7 (p : Addr) (n : Int) (l : List (Option Int)) : L2.St := some (.ref p) :: some (.int n) :: l.map (Option.map V.int)
structure J7 (p q : Addr) (cs : List Int) (H0 H : Hp) (b0 b1 b2 : Int) : Prop where
  ne : p ≠ q
  q0 : H0 q = some (.lst (cs.map V.int))
  at_ : H p = some (.lst [.int b0, .int b1, .int b2, .ref q])
  keep : ∀ b o, b ≠ p → H0 b = some o → H b = some o
section
variable {p q : Addr} {cs : List Int} {H0 H : Hp} {b0 b1 b2 n : Int} {l : List (Option Int)}
theorem J7.sub (j : J7 p q cs H0 H b0 b1 b2) {H1 : Hp} (s : Sub H H1) : J7 p q cs H0 H1 b0 b1 b2 := ⟨j.ne, j.q0, s _ _ j.at_, fun b o n e => s _ _ (j.keep b o n e)⟩
theorem J7.put (j : J7 p q cs H0 H b0 b1 b2) (c0 c1 c2 : Int) : J7 p q cs H0 (upd H p (.lst [.int c0, .int c1, .int c2, .ref q])) c0 c1 c2 := ⟨j.ne, j.q0, upd_same, fun b o n e => by rw [upd_ne n]; exact j.keep b o n e⟩
theorem J7.rep (j : J7 p q cs H0 H b0 b1 b2) : Rp H (.ref p) (BL b0 b1 b2 cs) :=
  .lst j.at_ (.cons (.int _) (.cons (.int _) (.cons (.int _) (.cons (.lst (j.keep _ _ (Ne.symm j.ne) j.q0) (RpAll.ofInts cs)) .nil))))
theorem J7.vr (j : J7 p q cs H0 H b0 b1 b2) : ValRep (σ7 p n l) H (sl7 b0 b1 b2 cs n l) := by
  refine ⟨by simp [σ7, sl7], fun i x e => ?_, fun i y e => ?_⟩
  · match i, e with
    | 0, e =>
      cases e
      exact ⟨_, rfl, j.rep⟩
    | 1, e =>
      cases e
      exact ⟨_, rfl, Rp.int _⟩
    | i + 2, e =>
      have e : (l.map slO)[i]? = some (.val x) := e
      rw [List.getElem?_map] at e
      show ∃ v, (l.map (Option.map V.int))[i]? = some (some v) ∧ _
      rw [List.getElem?_map]
      cases z : l[i]? with
      | none => rw [z] at e; cases e
      | some o =>
        rw [z] at e
        cases o with
        | none => cases e
        | some w => cases e; exact ⟨_, rfl, Rp.int w⟩
  · match i, e with
    | 0, e => cases e
    | 1, e => cases e
    | i + 2, e =>
      have e : (l.map slO)[i]? = some (.own y) := e
      rw [List.getElem?_map] at e
      cases z : l[i]? with
      | none => rw [z] at e; cases e
      | some o =>
        rw [z] at e
        cases o <;> cases e
theorem cut_last (cs : List Int) (lo hi : Option Int) (h : (cutD (cs.map PyData.int) lo hi ++ [PyData.int 0]) ≠ []) : ∃ c, (cutD (cs.map PyData.int) lo hi ++ [PyData.int 0])[0]? = some (.int c) := by
  have key : ∀ l : List Int, ∃ c, (l.map PyData.int ++ [PyData.int 0])[0]? = some (.int c) := fun l => by
    cases l with
    | nil => exact ⟨0, rfl⟩
    | cons a r => exact ⟨a, rfl⟩
  have e : cutD (cs.map PyData.int) lo hi = (cutD cs lo hi).map PyData.int := by
    unfold cutD
    rw [List.length_map, List.map_take, List.map_drop]
  rw [e]
  exact key _
theorem cut_le (cs : List Int) (lo hi : Option Int) : (cutD (cs.map PyData.int) lo hi).length ≤ cs.length := by
  unfold cutD
  simp
  omega
abbrev Ebag (i : Int) : E := .idx (.var 0) (.cst (.int i))
theorem shp_int (i : Int) : Shp (.int i) := rfl
theorem w_test (Q : Bool → Prop) (h : Q (decide (b0 = 0))) : wpT noT (.cmp .eq (Ebag 0) (.cst (.int 0))) noX ⟨sl7 b0 b1 b2 cs n l, ()⟩ fun b _ => Q b := by
  by_cases z : b0 = 0
  · subst z
    simpa [wpT, wpE, opd, E.isVar, Op.get, SS.get, sl7, idxW, cmpW, BL, atI, ixN, Sl.get, truthD, Rs.sv, PyData.eqv, Shp, shp_int, eqC, eqB] using h
  · simpa [wpT, wpE, opd, E.isVar, Op.get, SS.get, sl7, idxW, cmpW, BL, atI, ixN, Sl.get, truthD, Rs.sv, PyData.eqv, Shp, shp_int, eqC, eqB, z] using h
theorem w_pos (Q : Bool → Prop) (h : ∀ t, Q t) : wpT noT (.cmp .gt (Ebag 0) (.cst (.int 0))) noX ⟨sl7 b0 b1 b2 cs n l, ()⟩ fun b _ => Q b := by
  simp [wpT, wpE, opd, E.isVar, Op.get, SS.get, sl7, idxW, cmpW, BL, atI, ixN, Sl.get, truthD, Rs.sv, h]
  omega
theorem w_cell (hz : cs.length ≤ 63) : wpE noT (.idx (.bin .add (.cut (Ebag 3) (.some (Ebag 2)) .none) (.lst (.cons (.cst (.int 0)) .nil))) (.cst (.int 0))) noX ⟨sl7 b0 b1 b2 cs n l, ()⟩ fun x _ => ∃ d, x.sv = .d d ∧ ∃ c, d = .int c := by
  have h1 : (1 : Nat) ≤ sizeLine := by decide
  have h2 := cut_le cs (some b2) none
  have h3 : (cutD (cs.map PyData.int) (some b2) none).length + 1 ≤ sizeLine := Nat.le_trans (Nat.add_le_add_right (Nat.le_trans h2 hz) 1) (by decide)
  obtain ⟨c, hc⟩ := cut_last cs (some b2) none (by simp)
  have hg := List.getElem?_eq_some_iff.mp hc
  obtain ⟨hl, hg⟩ := hg
  simp [wpE, wpEs, wpEo, opd, E.isVar, Op.get, SS.get, sl7, idxW, BL, atI, ixN, Sl.get, Rs.sv, cutW, binW, dats, h1, h3, hg]
theorem w_big {c : Int} {o3 o4 o5 o6 : Option Int} (Q : Bool → Prop) (h : ∀ t, Q t) : wpT noT (.cmp .ge (.var 2) (.bin .pow (.cst (.int 10)) (.cst (.int 18)))) noX ⟨sl7 b0 b1 b2 cs n [some c, o3, o4, o5, o6], ()⟩ fun b _ => Q b := by
  simp [wpT, wpE, opd, E.isVar, Op.get, SS.get, sl7, slO, cmpW, binW, CPow, Sl.get, truthD, Rs.sv, SS.frz, h]
  omega
theorem w_var {c : Int} {i : Nat} (h : (sl7 b0 b1 b2 cs n l)[i]? = some (.val (.d (.int c)))) : wpE noT (.var i) noX ⟨sl7 b0 b1 b2 cs n l, ()⟩ fun x _ => ∃ d, x.sv = .d d ∧ d = .int c := by
  simp [wpE, SS.get, h, Sl.get, Rs.sv]
theorem w_stir {c : Int} {o3 o4 o5 o6 : Option Int} : wpE noT (.bin .add (.bin .add (.bin .mul (Ebag 1) (.cst (.int 48271))) (.bin .mod (.blt .int (.cons (.var 2) .nil)) (.cst (.int 2147483647)))) (.bin .mul (.cst (.int 7919)) (Ebag 2))) noX ⟨sl7 b0 b1 b2 cs n [some c, o3, o4, o5, o6], ()⟩
    fun x _ => ∃ d, x.sv = .d d ∧ ∃ c, d = .int c := by
  have g0 : SS.get (W := W0) ⟨sl7 b0 b1 b2 cs n [some c, o3, o4, o5, o6], ()⟩ 0 = some (.d (BL b0 b1 b2 cs)) := rfl
  have g2 : SS.get (W := W0) ⟨sl7 b0 b1 b2 cs n [some c, o3, o4, o5, o6], ()⟩ 2 = some (.d (.int c)) := rfl
  generalize (⟨sl7 b0 b1 b2 cs n [some c, o3, o4, o5, o6], ()⟩ : SS W0) = st at g0 g2
  have i1 : ∀ K : Rs → Prop, K (.v (.d (.int b1))) → idxW (.d (BL b0 b1 b2 cs)) (.d (.int 1)) K := fun K h => ⟨_, rfl, h⟩
  have i2 : ∀ K : Rs → Prop, K (.v (.d (.int b2))) → idxW (.d (BL b0 b1 b2 cs)) (.d (.int 2)) K := fun K h => ⟨_, rfl, h⟩
  simp only [wpE, wpOs, opd, E.isVar, Op.get, opsGet, g0, g2, Rs.sv, Option.isSome_some, Option.some.injEq, exists_eq_left', true_and]
  refine i1 _ ⟨_, _, rfl, rfl, .inr (by decide), _, _, rfl, rfl, by decide, _, _, rfl, rfl, ?_⟩
  dsimp only [binW]
  exact i2 _ ⟨_, _, rfl, rfl, .inl (by decide), _, _, rfl, rfl, _, rfl, _, rfl⟩
theorem w_stir2 {o2 o4 o5 o6 : Option Int} {c : Int} : wpE noT (.bin .mod (.blt .int (.cons (.var 3) .nil)) (.cst (.int 2147483647))) noX ⟨sl7 b0 b1 b2 cs n [o2, some c, o4, o5, o6], ()⟩ fun x _ => ∃ d, x.sv = .d d ∧ ∃ c, d = .int c := by
  simp [wpE, wpEs, wpOs, opd, E.isVar, Op.get, opsGet, SS.get, sl7, slO, binW, Sl.get, Rs.sv, bltW]
theorem mod_range {a n : Int} (h : 0 < n) : 0 ≤ a % n ∧ a % n < n := ⟨Int.emod_nonneg _ (Int.ne_of_gt h), Int.emod_lt_of_pos _ h⟩
theorem w_val (h : 0 < n) : wpE noT (.bin .mod (.blt .int (.cons (Ebag 0) .nil)) (.var 1)) noX ⟨sl7 b0 b1 b2 cs n l, ()⟩ fun x _ => ∃ d, x.sv = .d d ∧ ∃ c, d = .int c ∧ 0 ≤ c ∧ c < n := by
  have := mod_range (a := b0) h
  simp [wpE, wpEs, wpOs, opd, E.isVar, Op.get, opsGet, SS.get, sl7, idxW, BL, atI, ixN, binW, Sl.get, Rs.sv, bltW, h, this]
theorem w_quo (h : 0 < n) (h2 : n < 1073741824) : wpE noT (.bin .fdiv (.blt .int (.cons (Ebag 0) .nil)) (.var 1)) noX ⟨sl7 b0 b1 b2 cs n l, ()⟩ fun x _ => ∃ d, x.sv = .d d ∧ ∃ c, d = .int c := by
  simp [wpE, wpEs, wpOs, opd, E.isVar, Op.get, opsGet, SS.get, sl7, idxW, BL, atI, ixN, binW, CDiv, Sl.get, Rs.sv, bltW, h, h2]
theorem w_beg : wpE noT (.bin .mod (.blt .int (.cons (.bin .mul (.bin .add (Ebag 1) (.cst (.int 1))) (.cst (.int 39373))) .nil)) (.cst (.int 1000000007))) noX ⟨sl7 b0 b1 b2 cs n l, ()⟩ fun x _ => ∃ d, x.sv = .d d ∧ ∃ c, d = .int c ∧ 0 ≤ c ∧ c < 1000000007 := by
  have := mod_range (a := (b1 + 1) * 39373) (n := 1000000007) (by decide)
  have e2 : ∀ z : Int, CMul z 39373 := fun z => .inr (by decide)
  simp [wpE, wpEs, wpOs, opd, E.isVar, Op.get, opsGet, SS.get, sl7, idxW, BL, atI, ixN, binW, Sl.get, Rs.sv, bltW, this, e2]
theorem w_sec {c : Int} {o2 o3 o4 o6 : Option Int} (h : 0 ≤ c ∧ c < 1000000007) : wpE noT (.bin .mod (.blt .int (.cons (.bin .mul (.bin .mod (.blt .int (.cons (.bin .mul (.var 5) (.var 5)) .nil)) (.cst (.int 998244353))) (.cst (.int 30011))) .nil)) (.cst (.int 998244353))) noX
    ⟨sl7 b0 b1 b2 cs n [o2, o3, o4, some c, o6], ()⟩ fun x _ => ∃ d, x.sv = .d d ∧ ∃ c, d = .int c := by
  have e : CMul c c := .inl ⟨by omega, by omega⟩
  have e2 : ∀ z : Int, CMul z 30011 := fun z => .inr (by decide)
  simp [wpE, wpEs, wpOs, opd, E.isVar, Op.get, opsGet, SS.get, sl7, slO, binW, Sl.get, Rs.sv, bltW, e, e2]
theorem w_fin {c : Int} {o2 o3 o4 o5 : Option Int} (h : 0 < n) : wpE noT (.bin .mod (.blt .int (.cons (.bin .fdiv (.var 6) (.cst (.int 7))) .nil)) (.var 1)) noX ⟨sl7 b0 b1 b2 cs n [o2, o3, o4, o5, some c], ()⟩ fun x _ => ∃ d, x.sv = .d d ∧ ∃ c, d = .int c ∧ 0 ≤ c ∧ c < n := by
  have := mod_range (a := c / 7) h
  have e : CDiv c 7 := by unfold CDiv; decide
  simp [wpE, wpEs, wpOs, opd, E.isVar, Op.get, opsGet, SS.get, sl7, slO, binW, Sl.get, Rs.sv, bltW, h, e, this]

/-! ### the body of _law_take -/
structure NameAt (T : Env_) (sc : Scope) (x : Str) (i : Nat) : Prop where
  ix : ixOf T.N x = some i
  vis : visC sc x = true
  d1 : (x == ("__debug__" : Str)) = false
  d2 : (x == ("__classdict__" : Str)) = false
  sto : stoC sc x = true
section
variable {T : Env_} {X : Cx} {sc : Scope}
theorem name_pe {x : Str} {i : Nat} {pos : Pos} {σ : L2.St} {v : V} {Q : VK} (G : Good noT T X sc) (h : NameAt T sc x i) (e : σ[i]? = some (some v)) (q : Q v H) : PEat X (.Name x pos) σ H Q := at_name G h.ix h.vis h.d1 h.d2 e q
theorem int_pe {i : Int} {k : Nat} {pos : Pos} {σ : L2.St} {Q : VK} (q : Q (.int i) H) : PEat X (.Constant (.int i) k pos) σ H Q := PEat.of pe_int q
theorem take_walk {c0 e1 c2 e3 e4 c5 e6 e7 e9 e10 e11 : Expr} {xb xc xs xv xg xd : Str} {p1 p2 p3 p4 p5 p6 p7 p8 p9 p10 p11 p12 p13 p14 p15 p16 p17 p18 p19 p20 p21 p22 p23 p24 p25 p26 p27 p28 p29 p30 p31 p32 p33 p34 : Pos} {k1 k2 k3 k4 k5 : Nat} {D : Ends}
    (GS : GoodS noT T X sc) (nb : NameAt T sc xb 0) (nc : NameAt T sc xc 2) (ns : NameAt T sc xs 3) (nv : NameAt T sc xv 4) (ng : NameAt T sc xg 5) (nd : NameAt T sc xd 6)
    (h0 : SndT noT T sc c0 (.cmp .eq (Ebag 0) (.cst (.int 0)))) (h1 : SndE noT T sc e1 (.idx (.bin .add (.cut (Ebag 3) (.some (Ebag 2)) .none) (.lst (.cons (.cst (.int 0)) .nil))) (.cst (.int 0))))
    (h2 : SndT noT T sc c2 (.cmp .ge (.var 2) (.bin .pow (.cst (.int 10)) (.cst (.int 18)))))
    (h3 : SndE noT T sc e3 (.bin .add (.bin .add (.bin .mul (Ebag 1) (.cst (.int 48271))) (.bin .mod (.blt .int (.cons (.var 2) .nil)) (.cst (.int 2147483647)))) (.bin .mul (.cst (.int 7919)) (Ebag 2))))
    (h4 : SndE noT T sc e4 (.bin .mod (.blt .int (.cons (.var 3) .nil)) (.cst (.int 2147483647)))) (h5 : SndT noT T sc c5 (.cmp .gt (Ebag 0) (.cst (.int 0))))
    (h6 : SndE noT T sc e6 (.bin .mod (.blt .int (.cons (Ebag 0) .nil)) (.var 1))) (h7 : SndE noT T sc e7 (.bin .fdiv (.blt .int (.cons (Ebag 0) .nil)) (.var 1)))
    (h9 : SndE noT T sc e9 (.bin .mod (.blt .int (.cons (.bin .mul (.bin .add (Ebag 1) (.cst (.int 1))) (.cst (.int 39373))) .nil)) (.cst (.int 1000000007))))
    (h10 : SndE noT T sc e10 (.bin .mod (.blt .int (.cons (.bin .mul (.bin .mod (.blt .int (.cons (.bin .mul (.var 5) (.var 5)) .nil)) (.cst (.int 998244353))) (.cst (.int 30011))) .nil)) (.cst (.int 998244353))))
    (h11 : SndE noT T sc e11 (.bin .mod (.blt .int (.cons (.bin .fdiv (.var 6) (.cst (.int 7))) .nil)) (.var 1)))
    (c1 : notComp e1 = true) (c3 : notComp e3 = true) (c4 : notComp e4 = true) (c6 : notComp e6 = true) (c7 : notComp e7 = true) (c9 : notComp e9 = true) (c10 : notComp e10 = true)
    (hz : cs.length ≤ 63) (hn : 0 < n) (hn2 : n < 1073741824) (j : J7 p q cs H0 H b0 b1 b2) (fin : ∀ r H' d0 d1 d2, 0 ≤ r → r < n → J7 p q cs H0 H' d0 d1 d2 → D.rt (.int r) H') :
    PSsat X [.If c0 [.Assign [.Name xc p1] e1 p2, .AugAssign (.Subscript (.Name xb p3) (.Constant (.int 2) k1 p4) p5) .Add (.Constant (.int 1) k2 p6) p7,
        .If c2 [.Assign [.Subscript (.Name xb p8) (.Constant (.int 0) k3 p9) p10] (.Name xc p11) p12] [] p13, .Assign [.Name xs p14] e3 p15, .Assign [.Subscript (.Name xb p16) (.Constant (.int 1) k4 p17) p18] e4 p19] [] p20,
      .If c5 [.Assign [.Name xv p21] e6 p22, .Assign [.Subscript (.Name xb p23) (.Constant (.int 0) k5 p24) p25] e7 p26, .Return (some (.Name xv p27)) p28] [] p29,
      .Assign [.Name xg p30] e9 p31, .Assign [.Name xd p32] e10 p33, .Return (some e11) p34] D (σ7 p n [none, none, none, none, none]) H := by
  have G := GS.g
  -- behind the first if
  have rest : ∀ (H : Hp) (b0 b1 b2 : Int) (o2 o3 : Option Int), J7 p q cs H0 H b0 b1 b2 → PSsat X [.If c5 [.Assign [.Name xv p21] e6 p22, .Assign [.Subscript (.Name xb p23) (.Constant (.int 0) k5 p24) p25] e7 p26, .Return (some (.Name xv p27)) p28] [] p29,
      .Assign [.Name xg p30] e9 p31, .Assign [.Name xd p32] e10 p33, .Return (some e11) p34] D (σ7 p n [o2, o3, none, none, none]) H := by
    intro H b0 b1 b2 o2 o3 j
    refine steps (step_if ((pure_tt h5 G j.vr (w_pos (Q := fun _ => True) fun _ => True.intro)).mono fun t H1 z => ?_))
    have j := j.sub z.1
    cases t with
    | true =>
      rw [if_pos rfl]
      refine steps (step_set GS nv.sto nv.ix c6 ((pure_ev h6 G j.vr (w_val hn)).mono fun v H2 z => ?_))
      obtain ⟨s2, d, rp, c, rfl, r1, r2⟩ := z
      cases rp
      have j := j.sub s2
      refine steps (step_put rfl c7 ((pure_ev (σ := σ7 p n [o2, o3, some c, none, none]) h7 G j.vr (w_quo hn hn2)).mono fun v H3 z => ?_))
      obtain ⟨s3, d, rp, c', rfl⟩ := z
      cases rp
      have j := j.sub s3
      refine name_pe G nb rfl (int_pe ⟨p, _, 0, 0, rfl, rfl, j.at_, rfl, ?_⟩)
      exact steps (step_ret (name_pe G nv (i := 4) rfl (fin c _ _ _ _ r1 r2 (j.put c' b1 b2))))
    | false =>
      rw [if_neg Bool.false_ne_true]
      refine steps0 (steps (step_set GS ng.sto ng.ix c9 ((pure_ev h9 G j.vr w_beg).mono fun v H2 z => ?_)))
      obtain ⟨s2, d, rp, c, rfl, r1, r2⟩ := z
      cases rp
      have j := j.sub s2
      refine steps (step_set GS nd.sto nd.ix c10 ((pure_ev (σ := σ7 p n [o2, o3, none, some c, none]) h10 G j.vr (w_sec ⟨r1, r2⟩)).mono fun v H3 z => ?_))
      obtain ⟨s3, d, rp, c', rfl⟩ := z
      cases rp
      have j := j.sub s3
      refine steps (step_ret ((pure_ev (σ := σ7 p n [o2, o3, none, some c, some c']) h11 G j.vr (w_fin hn)).mono fun v H4 z => ?_))
      obtain ⟨s4, d, rp, c'', rfl, q1, q2⟩ := z
      cases rp
      exact fin c'' _ _ _ _ q1 q2 (j.sub s4)
  refine steps (step_if ((pure_tt h0 G j.vr (w_test (Q := fun _ => True) True.intro)).mono fun t H1 z => ?_))
  have j := j.sub z.1
  cases t with
  | false =>
    rw [if_neg Bool.false_ne_true]
    exact steps0 (rest _ _ _ _ _ _ j)
  | true =>
    rw [if_pos rfl]
    refine steps (step_set GS nc.sto nc.ix c1 ((pure_ev h1 G j.vr (w_cell hz)).mono fun v H2 z => ?_))
    obtain ⟨s2, d, rp, c, rfl⟩ := z
    cases rp
    have j := j.sub s2
    refine steps (step_aug rfl (name_pe G nb rfl (int_pe ⟨p, _, 2, b2, rfl, rfl, j.at_, by decide, by decide, rfl, int_pe ⟨1, _, 2, rfl, j.at_, rfl, ?_⟩⟩)))
    have j := j.put b0 b1 (b2 + 1)
    have more : ∀ (D' : Ends) (H : Hp) (b0 b1 b2 : Int), (∀ c' H d0 d1 d2, J7 p q cs H0 H d0 d1 d2 → D'.nx (σ7 p n [some c, some c', none, none, none]) H) → J7 p q cs H0 H b0 b1 b2 →
        PSsat X [.Assign [.Name xs p14] e3 p15, .Assign [.Subscript (.Name xb p16) (.Constant (.int 1) k4 p17) p18] e4 p19] D' (σ7 p n [some c, none, none, none, none]) H := by
      intro D' H b0 b1 b2 go j
      refine steps (step_set GS ns.sto ns.ix c3 ((pure_ev h3 G j.vr w_stir).mono fun v H3 z => ?_))
      obtain ⟨s3, d, rp, c', rfl⟩ := z
      cases rp
      have j := j.sub s3
      refine steps (step_put rfl c4 ((pure_ev (σ := σ7 p n [some c, some c', none, none, none]) h4 G j.vr w_stir2).mono fun v H4 z => ?_))
      obtain ⟨s4, d, rp, c'', rfl⟩ := z
      cases rp
      have j := j.sub s4
      refine name_pe G nb rfl (int_pe ⟨p, _, 1, 1, rfl, rfl, j.at_, rfl, ?_⟩)
      exact steps0 (go c' _ _ _ _ (j.put b0 c'' b2))
    refine steps (step_if ((pure_tt (σ := σ7 p n [some c, none, none, none, none]) h2 G j.vr (w_big (Q := fun _ => True) fun _ => True.intro)).mono fun t H3 z => ?_))
    have j := j.sub z.1
    cases t with
    | false =>
      rw [if_neg Bool.false_ne_true]
      exact steps0 (more _ _ _ _ _ (fun c' H d0 d1 d2 j => rest _ _ _ _ _ _ j) j)
    | true =>
      rw [if_pos rfl]
      refine steps (step_put rfl rfl (name_pe G nc (i := 2) rfl (name_pe G nb rfl (int_pe ⟨p, _, 0, 0, rfl, rfl, j.at_, rfl, ?_⟩))))
      exact steps0 (more _ _ _ _ _ (fun c' H d0 d1 d2 j => rest _ _ _ _ _ _ j) (j.put c b1 (b2 + 1)))
end
end
end PD
/-! PD19: the bag's defs keep their promises. -/
namespace PD
open PySem L2 PySem.Spec PyProof.Rows
section
variable {P : Program} {w : World} {K : PySem.W.Frag} {mg : Str → Option Value} {base : Heap}
theorem good_cx {k : Nat} {f : Addr} {qual : Str} {scope : Scope} {cdv : Value} {N ps : List Str} {cs : Str → Option D} {A : Around} {out : List Env} {s : Shared} {H : Hp} {E : XK} (Sc : FnScope N ps scope) (md : ModOk mg cs)
    (room : Room k (A.deeper (envOfC qual scope s.heap.objs.size f cdv))) (gd : A.guards = some []) : GoodS noT ⟨N, cs, fun _ => false⟩ (cxOf (L2.CX P w) P w K mg base N qual scope f cdv A out s H E) scope := by
  refine ⟨⟨rfl, rfl, rfl, Sc.nd, gd, ?_, md.bl, (fun x F e => nomatch e), md.cst, (fun x h => nomatch h)⟩, fun x h => ?_, L2.passes_of rfl, Sc.kind⟩
  · have := room.un
    show (A.deeper (envOfC qual scope s.heap.objs.size f cdv)).units + 66 < cLine
    omega
  · unfold stoC at h
    split at h
    · rename_i q
      exact ⟨.inl q, .inl rfl⟩
    · rename_i q
      exact ⟨.inr q, .inl rfl⟩
    · cases h

/-! ### what the two defs promise -/
def bagFn : Fn (WK K) := fun xs g R _ => xs = [.r (.ref g.a)] ∧ g.bag = none ∧ g.ns.length ≤ 63 ∧ ∀ p q, R (.v (.r (.ref p))) ⟨g.a, g.ns, g.fz, some (p, q)⟩
def takeFn : Fn (WK K) := fun xs g R _ => ∃ p q n, g.bag = some (p, q) ∧ xs = [.r (.ref p), .d (.int n)] ∧ 0 < n ∧ n < 1073741824 ∧ ∀ r, 0 ≤ r → r < n → R (.v (.d (.int r))) g
theorem bagFn_mono : Mono (bagFn (K := K)) := fun xs g R R' Ex Ex' ⟨h1, h2, h3, h4⟩ q _ => ⟨h1, h2, h3, fun p q' => q _ _ (h4 p q')⟩
theorem takeFn_mono : Mono (takeFn (K := K)) := fun xs g R R' Ex Ex' ⟨p, q, n, h1, h2, h3, h4, h5⟩ qq _ => ⟨p, q, n, h1, h2, h3, h4, fun r a b => qq _ _ (h5 r a b)⟩

/-! ### _law_take -/
abbrev N7 (xb xm xc xs xv xg xd : Str) : List Str := [xb, xm, xc, xs, xv, xg, xd]
/-- the text of _law_take, wherever it stands -/
structure TakeTxt (T : Env_) (sc : Scope) (body : List Stmt) : Prop where
  ex : ∃ (c0 e1 c2 e3 e4 c5 e6 e7 e9 e10 e11 : Expr) (xb xc xs xv xg xd : Str) (p1 p2 p3 p4 p5 p6 p7 p8 p9 p10 p11 p12 p13 p14 p15 p16 p17 p18 p19 p20 p21 p22 p23 p24 p25 p26 p27 p28 p29 p30 p31 p32 p33 p34 : Pos) (k1 k2 k3 k4 k5 : Nat),
    body = [.If c0 [.Assign [.Name xc p1] e1 p2, .AugAssign (.Subscript (.Name xb p3) (.Constant (.int 2) k1 p4) p5) .Add (.Constant (.int 1) k2 p6) p7,
        .If c2 [.Assign [.Subscript (.Name xb p8) (.Constant (.int 0) k3 p9) p10] (.Name xc p11) p12] [] p13, .Assign [.Name xs p14] e3 p15, .Assign [.Subscript (.Name xb p16) (.Constant (.int 1) k4 p17) p18] e4 p19] [] p20,
      .If c5 [.Assign [.Name xv p21] e6 p22, .Assign [.Subscript (.Name xb p23) (.Constant (.int 0) k5 p24) p25] e7 p26, .Return (some (.Name xv p27)) p28] [] p29,
      .Assign [.Name xg p30] e9 p31, .Assign [.Name xd p32] e10 p33, .Return (some e11) p34] ∧
    (NameAt T sc xb 0 ∧ NameAt T sc xc 2 ∧ NameAt T sc xs 3 ∧ NameAt T sc xv 4 ∧ NameAt T sc xg 5 ∧ NameAt T sc xd 6) ∧
    (tOk 2 c0 = true ∧ cE T 40 sc c0 = some (.cmp .eq (Ebag 0) (.cst (.int 0)))) ∧ (notComp e1 = true ∧ cE T 40 sc e1 = some (.idx (.bin .add (.cut (Ebag 3) (.some (Ebag 2)) .none) (.lst (.cons (.cst (.int 0)) .nil))) (.cst (.int 0)))) ∧
    (tOk 2 c2 = true ∧ cE T 40 sc c2 = some (.cmp .ge (.var 2) (.bin .pow (.cst (.int 10)) (.cst (.int 18))))) ∧
    (notComp e3 = true ∧ cE T 40 sc e3 = some (.bin .add (.bin .add (.bin .mul (Ebag 1) (.cst (.int 48271))) (.bin .mod (.blt .int (.cons (.var 2) .nil)) (.cst (.int 2147483647)))) (.bin .mul (.cst (.int 7919)) (Ebag 2)))) ∧
    (notComp e4 = true ∧ cE T 40 sc e4 = some (.bin .mod (.blt .int (.cons (.var 3) .nil)) (.cst (.int 2147483647)))) ∧ (tOk 2 c5 = true ∧ cE T 40 sc c5 = some (.cmp .gt (Ebag 0) (.cst (.int 0)))) ∧
    (notComp e6 = true ∧ cE T 40 sc e6 = some (.bin .mod (.blt .int (.cons (Ebag 0) .nil)) (.var 1))) ∧ (notComp e7 = true ∧ cE T 40 sc e7 = some (.bin .fdiv (.blt .int (.cons (Ebag 0) .nil)) (.var 1))) ∧
    (notComp e9 = true ∧ cE T 40 sc e9 = some (.bin .mod (.blt .int (.cons (.bin .mul (.bin .add (Ebag 1) (.cst (.int 1))) (.cst (.int 39373))) .nil)) (.cst (.int 1000000007)))) ∧
    (notComp e10 = true ∧ cE T 40 sc e10 = some (.bin .mod (.blt .int (.cons (.bin .mul (.bin .mod (.blt .int (.cons (.bin .mul (.var 5) (.var 5)) .nil)) (.cst (.int 998244353))) (.cst (.int 30011))) .nil)) (.cst (.int 998244353)))) ∧
    cE T 40 sc e11 = some (.bin .mod (.blt .int (.cons (.bin .fdiv (.var 6) (.cst (.int 7))) .nil)) (.var 1))
theorem scr_ne {g : Bg} {H : Hp} {p : Addr} {xs : List V} (r : ScrAt K g H) (e : H p = some (.lst xs)) : g.fz = true → p ≠ g.a := fun h z => by
  unfold ScrAt at r
  rw [if_pos h] at r
  obtain ⟨o, r⟩ := r
  subst z
  rw [e] at r
  cases r
theorem scr_keep {g g' : Bg} {H H' : Hp} (ha : g'.a = g.a) (hn : g'.ns = g.ns) (hf : g'.fz = g.fz) (r : ScrAt K g H) (h : g.fz = true → ∀ o, H g.a = some o → H' g.a = some o) : ScrAt K g' H' := by
  unfold ScrAt at r ⊢
  rw [ha, hn, hf]
  split at r
  · rename_i z
    obtain ⟨o, e⟩ := r
    rw [if_pos z]
    exact ⟨o, h z _ e⟩
  · rename_i z
    rw [if_neg z]
    exact r
theorem take_fnG {k : Nat} {f : Addr} {name qual : Str} {params : Arguments} {body : List Stmt} {scope : Scope} {dV kV doc pm cdv ct oc : Value} {an od : Option Addr} {osl : Array (Option Value)} {xb xm xc xs xv xg xd : Str}
    (found : K.lookup f = some ⟨oc, od, .func (PySem.W.fnOf name qual params body scope dV kV doc pm an cdv ct), osl⟩) (code : PySem.W.codeIn K cdv qual = true) (Sc : FnScope (N7 xb xm xc xs xv xg xd) [xb, xm] scope) (md : ModOk mg fun _ => none)
    (tx : TakeTxt ⟨N7 xb xm xc xs xv xg xd, fun _ => none, fun _ => false⟩ scope body) : FnG P w K mg base (k + 1) f (PySem.W.fnOf name qual params body scope dV kV doc pm an cdv ct) [xb, xm] (spOf mg 2 (takeFn (K := K))) := by
  refine fnG_of found code Sc (fun vs H Q E ⟨_, _, _, h, _⟩ => h) fun A out s H vs Q E room gd sp => ?_
  obtain ⟨M, g, xs', hn, hM, hR, rp, p, q, n, hb, rfl, n0, n1, fin⟩ := sp
  cases rp with
  | cons r1 rp =>
    cases rp with
    | cons r2 rp =>
      cases rp
      have r1 : _ = V.ref p := r1
      subst r1
      cases r2
      have GS := good_cx (P := P) (w := w) (K := K) (mg := mg) (base := base) (out := out) (H := H) (E := E) Sc md room gd
      obtain ⟨c0, e1, c2, e3, e4, c5, e6, e7, e9, e10, e11, yb, yc, ys, yv, yg, yd, p1, p2, p3, p4, p5, p6, p7, p8, p9, p10, p11, p12, p13, p14, p15, p16, p17, p18, p19, p20, p21, p22, p23, p24, p25, p26, p27, p28, p29, p30, p31, p32, p33, p34, k1, k2, k3, k4, k5,
        eb, ⟨m0, m2, m3, m4, m5, m6⟩, ⟨t0, q0⟩, ⟨t1, q1⟩, ⟨t2, q2⟩, ⟨t3, q3⟩, ⟨t4, q4⟩, ⟨t5, q5⟩, ⟨t6, q6⟩, ⟨t7, q7⟩, ⟨t9, q9⟩, ⟨t10, q10⟩, q11⟩ := tx.ex
      subst eb
      have all := cE_ok (Φ := noT) (T := ⟨N7 xb xm xc xs xv xg xd, fun _ => none, fun _ => false⟩) (fun f F e => nomatch e) 40
      have hR0 : bgR K g H := hR
      obtain ⟨scr, bag⟩ := hR0
      rw [hb] at bag
      obtain ⟨ne, b0, b1, b2, cs, h1, h2, h3⟩ := bag
      have foot : ∀ b, bgFoot g b = false → b ≠ p := fun b z e => by
        subst e
        simp [bgFoot, hb] at z
      refine take_walk (cs := cs) (n := n) (b0 := b0) (b1 := b1) (b2 := b2) (q := q) (H0 := H) GS m0 m2 m3 m4 m5 m6 ((all _ _ _ q0).2.2 2 t0) (all _ _ _ q1).1 ((all _ _ _ q2).2.2 2 t2) (all _ _ _ q3).1 (all _ _ _ q4).1 ((all _ _ _ q5).2.2 2 t5) (all _ _ _ q6).1 (all _ _ _ q7).1
        (all _ _ _ q9).1 (all _ _ _ q10).1 (all _ _ _ q11).1 t1 t3 t4 t6 t7 t9 t10 h3 n0 n1 ⟨ne, h2, h1, fun _ _ _ e => e⟩ fun r H' d0 d1 d2 r0 r1 j => ?_
      refine fin r r0 r1 (.int r) H' ⟨fun b o e z => ⟨j.keep b o (foot b z) e, z⟩, fun b e => ?_⟩ ⟨scr_keep rfl rfl rfl scr fun z o e => j.keep _ _ (fun w => scr_ne scr h1 z w.symm) e, ?_⟩ (Rp.int r)
      · by_cases z : b = p
        · subst z
          rw [j.at_]
          simp
        · cases w : H b with
          | none => exact absurd w e
          | some o =>
            rw [j.keep b o z w]
            simp
      · rw [hb]
        exact ⟨ne, d0, d1, d2, cs, j.at_, j.keep _ _ (Ne.symm ne) h2, h3⟩

/-! ### _law_bag -/
structure BagTxt (T : Env_) (sc : Scope) (xs xc : Str) (body : List Stmt) : Prop where
  ex : ∃ (scope : Scope) (elt : Expr) (p1 p2 p3 p4 p5 p6 p7 p8 p9 p10 p11 : Pos) (k1 k2 k3 k4 : Nat),
    body = [.Return (some (.List [.Constant (.int 0) k1 p1, .Constant (.int 1234567891) k2 p2, .Constant (.int 0) k3 p3,
      .ListComp elt [⟨.Name xc p4, .Subscript (.Name xs p5) (.Slice none (some (.Constant (.int 63) k4 p6)) none p7) p8, [], 0⟩] scope p9] p10)) p11] ∧
    NameAt T sc xs 0 ∧ ixOf T.N xc = some 1 ∧ stoC scope xc = true ∧ blkC T.N sc scope [(xc, 1)] = true ∧ cE T 40 (relS scope sc) elt = some (.blt .abs (.cons (.var 1) .nil))
theorem cut63 (ns : List Int) : cutV (ns.map V.int) none (some 63) = (ns.take 63).map V.int := by
  unfold cutV
  simp [HT.sIx]
theorem pg_blk {W : Wd} {Φ : Tab W} {T : Env_} {X : Cx} {sc scope : Scope} {x : Str} {i : Nat} {pos : Pos} (G : Good Φ T X sc) (h : stoC scope x = true) (hi : ixOf T.N x = some i) (s : Shared) (H : Hp) (C : Addr) (cl : List (Str × Addr)) (fp : List Addr) :
    PG (X.blk s H scope (compEnvC scope cl C X.env) fp) (.Name x pos) (gName i) := by
  obtain ⟨l1, l2⟩ := stoB (s0 := s) (H0 := H) (C := C) (cl := cl) (fp := fp) G x h
  exact pg_name (by show X.N.Nodup; rw [G.N]; exact G.nd) (by show X.N[i]? = _; rw [G.N]; exact ixOf_get hi) l1 l2
theorem bag_fnG {k : Nat} {f : Addr} {name qual : Str} {params : Arguments} {body : List Stmt} {scope : Scope} {dV kV doc pm cdv ct oc : Value} {an od : Option Addr} {osl : Array (Option Value)} {xs xc : Str}
    (found : K.lookup f = some ⟨oc, od, .func (PySem.W.fnOf name qual params body scope dV kV doc pm an cdv ct), osl⟩) (code : PySem.W.codeIn K cdv qual = true) (Sc : FnScope [xs, xc] [xs] scope) (md : ModOk mg fun _ => none)
    (tx : BagTxt ⟨[xs, xc], fun _ => none, fun _ => false⟩ scope xs xc body) : FnG P w K mg base (k + 1) f (PySem.W.fnOf name qual params body scope dV kV doc pm an cdv ct) [xs] (spOf mg 1 (bagFn (K := K))) := by
  refine fnG_of found code Sc (fun vs H Q E ⟨_, _, _, h, _⟩ => h) fun A out s H vs Q E room gd sp => ?_
  obtain ⟨M, g, xs', hn, hM, hR, rp, rfl, hb, hl, fin⟩ := sp
  cases rp with
  | cons r1 rp =>
    cases rp
    have r1 : _ = V.ref g.a := r1
    subst r1
    have GS := good_cx (P := P) (w := w) (K := K) (mg := mg) (base := base) (out := out) (H := H) (E := E) Sc md room gd
    have G := GS.g
    obtain ⟨sc2, elt, p1, p2, p3, p4, p5, p6, p7, p8, p9, p10, p11, k1, k2, k3, k4, eb, m0, ix, sto, blk, qe⟩ := tx.ex
    subst eb
    have hE := (cE_ok (Φ := noT) (T := ⟨[xs, xc], fun _ => none, fun _ => false⟩) (fun f F e => nomatch e) 40 _ _ _ qe).1
    have hR0 : bgR K g H := hR
    obtain ⟨scr, _⟩ := hR0
    have sq := scr_sq scr
    refine steps (step_ret (PEat.of (pe_lst (pa_cons pe_at (pa_cons pe_at (pa_cons pe_at (pa_cons pe_at pa_nil (star_cons _ _ rfl)) (star_cons _ _ rfl)) (star_cons _ _ rfl)) (star_cons _ _ rfl))) ?_))
    refine int_pe (int_pe (int_pe ?_))
    refine PEat.of (pe_lc (own := [(xc, 1)]) G.calm (by rw [G.N]; exact G.nd) (pi_list (pe_slice sl_list pe_at po_none (po_some pe_at))) (by rw [G.N, G.sc]; exact blkOk_by blk) (pg_blk G sto ix) (fun s H C cl fp => pts_nil) (fun s H C cl fp => blk_pe)) ?_
    refine name_pe G m0 rfl (int_pe ⟨63, rfl, g.a, g.ns.map V.int, rfl, sq, fun a1 n1 => ?_⟩)
    rw [cut63]
    refine ⟨a1, rfl, ⟨_, SqL.of upd_same⟩, fun d hd => ?_⟩
    have da : d ≠ a1 := fun z => by
      subst z
      rw [upd_same] at hd
      cases hd
    have hH : H d = none := by rw [upd_ne da] at hd; exact hd
    have h63 : ((g.ns.take 63).map V.int).length ≤ 63 := by simp; omega
    refine lc_list (K := K) (a := a1) (xs := (g.ns.take 63).map V.int) (fun i H' => ∃ acc : List Int, acc.length = i ∧ H' d = some (.lst (acc.map V.int)) ∧ ∀ b o, b ≠ d → (upd H a1 (.lst ((g.ns.take 63).map V.int))) b = some o → H' b = some o)
      ⟨[], rfl, upd_same, fun b o z e => by rw [upd_ne z]; exact e⟩ (fun i H' hi ⟨acc, _, _, kp⟩ => SqL.of (kp a1 _ (Ne.symm da) upd_same)) (fun i x H' hx ⟨acc, ha, hd', kp⟩ => ?_) (fun H' ⟨acc, ha, hd', kp⟩ => ?_)
    · rw [List.getElem?_map] at hx
      cases z : (g.ns.take 63)[i]? with
      | none => rw [z] at hx; cases hx
      | some c =>
        rw [z] at hx
        cases hx
        have hi : i < (g.ns.take 63).length := (List.getElem?_eq_some_iff.mp z).1
        refine ⟨rfl, ?_⟩
        show PEb _ sc2 elt _ H' _
        intro s0 H0 C cl fp
        refine (pure_ev (sl := [.un, .val (.d (.int c))]) (σ := [some (.ref g.a), some (.int c)]) (Q := fun d => ∃ z, d = .int z) hE G.blk ⟨rfl, fun i x e => ?_, fun i y e => ?_⟩ ?_).mono fun v H4 z => ?_
        · match i, e with
          | 0, e => cases e
          | 1, e => cases e; exact ⟨_, rfl, Rp.int _⟩
          | i + 2, e => cases e
        · match i, e with
          | 0, e => cases e
          | 1, e => cases e
          | i + 2, e => cases e
        · simp [wpE, wpOs, opd, PD.E.isVar, Op.get, opsGet, SS.get, Sl.get, bltW, Rs.sv]
        · obtain ⟨s4, dd, rp, z, rfl⟩ := z
          cases rp
          refine ⟨acc.map V.int, s4 _ _ hd', ?_, acc ++ [z], by simp [ha], by rw [upd_same]; simp, fun b o n e => by rw [upd_ne n]; exact s4 _ _ (kp b o n e)⟩
          rw [List.length_map, ha]
          have : (g.ns.take 63).length ≤ 63 := by simp; omega
          exact Nat.lt_of_lt_of_le (Nat.lt_of_lt_of_le hi this) (by decide)
    · show tNil _ _ _
      refine ⟨show 4 ≤ sizeLine by decide, fun p hp => ?_⟩
      have dp : d ≠ p := fun z => by
        subst z
        rw [hd'] at hp
        cases hp
      have keep : ∀ b o, H b = some o → b ≠ p ∧ b ≠ d ∧ H' b = some o := fun b o e => by
        have n1' : b ≠ a1 := fun z => by
          subst z
          rw [n1] at e
          cases e
        have nd : b ≠ d := fun z => by
          subst z
          rw [hH] at e
          cases e
        have e2 := kp b o nd (by rw [upd_ne n1']; exact e)
        refine ⟨fun z => ?_, nd, e2⟩
        subst z
        rw [hp] at e2
        cases e2
      refine fin p d (.ref p) _ ⟨fun b o e z => ?_, fun b e => ?_⟩ ⟨scr_keep rfl rfl rfl scr fun z o e => ?_, ?_⟩ rfl
      · obtain ⟨k1, k2, k3⟩ := keep b o e
        refine ⟨by rw [upd_ne k1]; exact k3, ?_⟩
        have z : bgFoot g b = false := z
        show bgFoot _ b = false
        unfold bgFoot at z ⊢
        simp [hb] at z
        simp [k1, k2]
        exact z
      · cases w : H b with
        | none => exact absurd w e
        | some o =>
          obtain ⟨k1, k2, k3⟩ := keep b o w
          rw [upd_ne k1, k3]
          simp
      · obtain ⟨k1, k2, k3⟩ := keep _ _ e
        rw [upd_ne k1]
        exact k3
      · refine ⟨dp.symm, 0, 1234567891, 0, acc, upd_same, by rw [upd_ne dp]; exact hd', ?_⟩
        rw [ha]
        simpa using h63
end
end PD
/-! PD20: defs one above another; the walk of a law. -/
namespace PD
open PySem L2 PySem.Spec PyProof.Rows
def ext {W : Wd} (Φ : Tab W) (x : Str) (F : Fn W) : Tab W := fun y => if y = x then some F else Φ y
section
variable {W : Wd} {P : Program} {w : World} {K : PySem.W.Frag} {mg : Str → Option Value} {base : Heap} {k : Nat} {Φ : Tab W}
theorem RealT.nil : RealT (W := W) P w K mg base k fun _ => none := fun x F e => nomatch e
theorem RealT.ext {x : Str} {F : Fn W} {f : Addr} {fd : FuncData} {ps : List Str} (h : RealT P w K mg base k Φ) (m : Mono F) (len : ∀ (xs : List SV) (g : W.T) (R : Rs → W.T → Prop) (Ex : Exn → W.T → Prop), F xs g R Ex → xs.length = ps.length)
    (fn : FnG P w K mg base (k + 1) f fd ps (spOf mg ps.length F)) (hm : mg x = some (.ref f)) (kp : PySem.W.keepIn K (.ref f) = true) (bd : Binds K fd ps []) : RealT P w K mg base (k + 1) (PD.ext Φ x F) := by
  intro y G e
  unfold PD.ext at e
  split at e
  · rename_i q
    cases e
    subst q
    exact ⟨m, f, fd, ps, len, fn, hm, kp, bd⟩
  · exact (h.mono (Nat.le_succ k)) y G e
theorem def_step {x : Str} {F : Fn W} {f : Addr} {name qual : Str} {params : Arguments} {body : List Stmt} {scope : Scope} {dV kV doc pm cdv ct oc : Value} {an od : Option Addr} {osl : Array (Option Value)} {N ps : List Str} {cs : Str → Option D} {m n : Nat} {ir : List Stm}
    (h : RealT P w K mg base k Φ) (mo : Mono F) (found : K.lookup f = some ⟨oc, od, .func (PySem.W.fnOf name qual params body scope dV kV doc pm an cdv ct), osl⟩) (code : PySem.W.codeIn K cdv qual = true) (Sc : FnScope N ps scope) (md : ModOk mg cs)
    (hc : cSs ⟨N, cs, fun x => (Φ x).isSome⟩ m scope n body = some ir) (hF : ∀ xs g R Ex, F xs g R Ex → bodyFn Φ N ps.length ir xs g R Ex) (hm : mg x = some (.ref f)) (kp : PySem.W.keepIn K (.ref f) = true)
    (bd : Binds K (PySem.W.fnOf name qual params body scope dV kV doc pm an cdv ct) ps []) : RealT P w K mg base (k + 1) (PD.ext Φ x F) :=
  h.ext mo (fun xs g R Ex z => (hF xs g R Ex z).1) (def_fnG found code Sc md h hc hF) hm kp bd
end
theorem mod_ok {K : PySem.W.Frag} {h : Heap} {mg : Str → Option Value} (X : K.In h) (G : h.Ns mainGlobals mg) (z : ∀ x ∈ bNames, PySem.W.nsIn K mainGlobals x = some none) : ModOk mg fun _ => none :=
  ⟨fun x hx => PySem.W.mg_none_of X G (z x hx), fun _ _ e => nomatch e⟩
/-- the walk that a law's row asks, from the promise of its own def -/
theorem walk_law {l : PySem.W.OpenLaw} {k : Nat} {q : Program} {loose : List Str} {XP : (Str → Option Value) → Heap → Prop} {YP : World → Heap → Prop} {d : DefRec} {K : Params → PySem.W.Frag} {x : Str} (most : l.most = some 63) (nodef : d.params.defaults = []) (room : Room k callerA)
    (kin : ∀ (w : World) (h : Heap), YP w h → (K w.params).In h)
    (fn : ∀ (w : World) (mg : Str → Option Value) (fa : Addr) (h : Heap), (K w.params).In h → h.Ns mainGlobals mg → mg d.name = some (.ref fa) → ∃ fd : FuncData, (∀ (s : Shared) (u : Value), BindsTo s fd ⟨[u], []⟩ [(x, u)]) ∧
      ∀ base : Heap, (K w.params).In base → base.Ns mainGlobals mg → FnG l.prog w (K w.params) mg base k fa fd [x] (spOf mg 1 (lawFn (K := K w.params)))) : PySem.W.WalkO q loose XP YP l.row.toRowW d [] (fun f vs => PySem.call f vs) := by
  refine Att.attach_call most nodef fun w _ s1 mg mb fa _ _ _ _ a vals ns Gr Yw _ _ _ isfa scr whole short nogen => ?_
  obtain ⟨fd, bd, all⟩ := fn w mg fa _ (kin w _ Yw) Gr.T.g isfa
  exact law_go (kin w _ Yw) Gr.T.g Gr.T.b Gr.T.builtins Gr.T.nolimit nogen scr whole short room all bd
end PD
/-! PE1: loops by invariants; the helpers that many laws share. -/
namespace PD
open PySem L2 PySem.Spec
section
variable {W : Wd}
theorem compL_inv {turn : D → SS W → (Option D → SS W → Prop) → Prop} {gd : SS W → Prop} {K : List D → SS W → Prop} (I : Nat → List D → SS W → Prop) :
    ∀ (items : List D) (i : Nat) (acc : List D) (st : SS W), I i acc st → (∀ i acc s, I i acc s → gd s ∧ acc.length < sizeLine) →
      (∀ j x acc s, items[j]? = some x → I (i + j) acc s → ∀ k : Option D → SS W → Prop, (∀ y s', I (i + j + 1) (acc ++ [y]) s' → k (some y) s') → (∀ s', I (i + j + 1) acc s' → k none s') → turn x s k) →
      (∀ acc s, I (i + items.length) acc s → K acc s) → compL turn gd items acc st K
  | [], i, acc, st, h, hg, hs, hk => ⟨(hg _ _ _ h).1, hk _ _ h⟩
  | x :: r, i, acc, st, h, hg, hs, hk => by
    refine ⟨(hg _ _ _ h).1, hs 0 x acc st rfl h _ (fun y s' h' => ⟨(hg _ _ _ h).2, ?_⟩) fun s' h' => ?_⟩
    · refine compL_inv I r (i + 1) _ _ h' hg (fun j y acc s e h => ?_) fun acc s h => ?_
      · have := hs (j + 1) y acc s (by simpa using e)
        rw [show i + (j + 1) = i + 1 + j by omega] at this
        exact this h
      · rw [show i + 1 + r.length = i + (x :: r).length by simp; omega] at h
        exact hk _ _ h
    · refine compL_inv I r (i + 1) _ _ h' hg (fun j y acc s e h => ?_) fun acc s h => ?_
      · have := hs (j + 1) y acc s (by simpa using e)
        rw [show i + (j + 1) = i + 1 + j by omega] at this
        exact this h
      · rw [show i + 1 + r.length = i + (x :: r).length by simp; omega] at h
        exact hk _ _ h
theorem forL_inv {turn : D → SS W → (SS W → Prop) → Prop} {gd : SS W → Prop} {K : SS W → Prop} (I : Nat → SS W → Prop) :
    ∀ (items : List D) (i : Nat) (st : SS W), I i st → (∀ i s, I i s → gd s) → (∀ j x s, items[j]? = some x → I (i + j) s → ∀ k : SS W → Prop, (∀ s', I (i + j + 1) s' → k s') → turn x s k) →
      (∀ s, I (i + items.length) s → K s) → forL turn gd items st K
  | [], i, st, h, hg, hs, hk => ⟨hg _ _ h, hk _ h⟩
  | x :: r, i, st, h, hg, hs, hk => by
    refine ⟨hg _ _ h, hs 0 x st rfl h _ fun s' h' => ?_⟩
    refine forL_inv I r (i + 1) _ h' hg (fun j y s e h => ?_) fun s h => ?_
    · have := hs (j + 1) y s (by simpa using e)
      rw [show i + (j + 1) = i + 1 + j by omega] at this
      exact this h
    · rw [show i + 1 + r.length = i + (x :: r).length by simp; omega] at h
      exact hk _ h
end

/-! ### _law_some, _law_mixed, _law_alike -/
section
variable {K : PySem.W.Frag} {Φ : Tab (WK K)}
def Bagged (g : Bg) (p : Addr) : Prop := ∃ q, g.bag = some (p, q)
theorem take_ok {g : Bg} {p : Addr} {n : Int} {R : Rs → Bg → Prop} {Ex : Exn → Bg → Prop} (b : Bagged g p) (h0 : 0 < n) (h1 : n < 1073741824) (h : ∀ r, 0 ≤ r → r < n → R (.v (.d (.int r))) g) : takeFn (K := K) [.r (.ref p), .d (.int n)] g R Ex := by
  obtain ⟨q, e⟩ := b
  exact ⟨p, q, n, e, rfl, h0, h1, h⟩
/-- one of several things -/
def someFn : Fn (WK K) := fun xs g R _ => ∃ p x, Bagged g p ∧ xs = [.r (.ref p), .d x] ∧ ((∃ ds, x = .list ds ∧ 0 < ds.length ∧ ds.length < 1073741824 ∧ ∀ d, d ∈ ds → R (.v (.d d)) g) ∨
  ∃ s : Str, x = .str s ∧ 0 < s.length ∧ s.length ≤ sizeLine ∧ ∀ c, c ∈ s.cps.toList → R (.v (.d (.str ⟨#[c]⟩))) g)
theorem someFn_mono : Mono (someFn (K := K)) := fun xs g R R' Ex Ex' ⟨p, x, b, e, h⟩ q _ => ⟨p, x, b, e, h.imp (fun ⟨ds, e, h0, h1, h⟩ => ⟨ds, e, h0, h1, fun d hd => q _ _ (h d hd)⟩) fun ⟨s, e, h0, h1, h⟩ => ⟨s, e, h0, h1, fun c hc => q _ _ (h c hc)⟩⟩
def irSome : List Stm := [.ret (.idx (.var 1) (.call "_law_take" (.cons (.var 0) (.cons (.blt .len (.cons (.var 1) .nil)) .nil))))]
theorem atI_in {α : Type} {xs : List α} {i : Int} (h0 : 0 ≤ i) (h1 : i < xs.length) : ∃ x, atI xs i = some x ∧ x ∈ xs := by
  have hi : i.toNat < xs.length := by omega
  refine ⟨xs[i.toNat], ?_, List.getElem_mem hi⟩
  unfold atI ixN
  rw [if_pos h0, if_pos h1]
  simp [hi]
theorem some_wp (ht : Φ "_law_take" = some takeFn) {N : List Str} (hN : N.length = 2) {xs : List SV} {g : Bg} {R : Rs → Bg → Prop} {Ex : Exn → Bg → Prop} (h : someFn (K := K) xs g R Ex) : bodyFn Φ N 2 irSome xs g R Ex := by
  obtain ⟨p, x, b, rfl, h⟩ := h
  refine ⟨rfl, ?_⟩
  simp only [irSome, wpSs, wpS, E.isVar, wpE, wpOs, opd, hN]
  rcases h with ⟨ds, rfl, h0, h1, h⟩ | ⟨s, rfl, h0, h1, h⟩
  · simp [SS.get, Sl.get, opsGet, Op.get, bltW, ht]
    refine take_ok b (by omega) (by omega) fun r r0 r1 => ?_
    obtain ⟨d, e1, e2⟩ := atI_in (xs := ds) r0 r1
    exact ⟨_, rfl, d, e1, h d e2⟩
  · have hl : s.cps.toList.length = s.length := by simp [Str.length]
    have hz : s.length < 1073741824 := Nat.lt_of_le_of_lt h1 (by decide)
    simp [SS.get, Sl.get, opsGet, Op.get, bltW, ht, h1]
    refine take_ok b (by omega) (by omega) fun r r0 r1 => ?_
    obtain ⟨d, e1, e2⟩ := atI_in (xs := s.cps.toList) r0 (by rw [hl]; exact r1)
    exact ⟨_, rfl, h1, d, e1, h d e2⟩
/-- things in another order -/
def mixedFn : Fn (WK K) := fun xs g R _ => ∃ p x ds, Bagged g p ∧ xs = [.r (.ref p), .d x] ∧ (x = .list ds ∨ x = .tuple ds) ∧ ds.length < 100000 ∧ ∀ es, es.Perm ds → R (.f (.list es)) g
theorem mixedFn_mono : Mono (mixedFn (K := K)) := fun xs g R R' Ex Ex' ⟨p, x, ds, b, e, h1, h2, h⟩ q _ => ⟨p, x, ds, b, e, h1, h2, fun es he => q _ _ (h es he)⟩
def irMixed : List Stm := [.asg (.nm 2) (.lst .nil), .forr (.nm 3) (.seq (.var 1)) [.expr (.mut .insert 2 (.cons (.call "_law_take" (.cons (.var 0) (.cons (.bin .add (.blt .len (.cons (.var 2) .nil)) (.cst (.int 1))) .nil))) (.cons (.var 3) .nil)))], .ret (.var 2)]
theorem perm_insert {α : Type} (es : List α) (x : α) (i : Nat) : (es.take i ++ [x] ++ es.drop i).Perm (es ++ [x]) := by
  have h : (es.take i ++ es.drop i).Perm es := by rw [List.take_append_drop]
  rw [List.append_assoc]
  refine List.Perm.trans (List.Perm.append_left _ List.perm_append_comm) ?_
  rw [← List.append_assoc, List.take_append_drop]
theorem mixed_wp (ht : Φ "_law_take" = some takeFn) {N : List Str} (hN : N.length = 4) {xs : List SV} {g : Bg} {R : Rs → Bg → Prop} {Ex : Exn → Bg → Prop} (h : mixedFn (K := K) xs g R Ex) : bodyFn Φ N 2 irMixed xs g R Ex := by
  obtain ⟨p, x, ds, b, rfl, hx, hl, h⟩ := h
  refine ⟨rfl, ?_⟩
  have hs : seqD (.d x) = some ds := by rcases hx with rfl | rfl <;> rfl
  have hz : (0 : Nat) ≤ sizeLine := by decide
  simp only [irMixed, wpSs, wpS, PD.E.isVar, wpE, wpEs, wpI, opd, hN]
  refine ⟨[], rfl, hz, ?_⟩
  simp only [List.map, List.length, List.replicate, List.cons_append, List.nil_append, SS.put, Rs.sl, List.set, Nat.reduceSub, Nat.reduceAdd]
  refine ⟨rfl, _, ds, rfl, hs, ?_⟩
  refine forL_inv (fun i s => ∃ es o, es.Perm (ds.take i) ∧ s = ⟨[.val (.r (.ref p)), .val (.d x), .own (.list es), o], g⟩) ds 0 _ ⟨[], .un, by simp, rfl⟩ (fun _ _ _ => True.intro) (fun j y s hj ⟨es, o, he, es_⟩ k hk => ?_) (fun s ⟨es, o, he, es_⟩ => ?_)
  · subst es_
    have jl : j < ds.length := (List.getElem?_eq_some_iff.mp hj).1
    have el : es.length = j := by
      have := he.length_eq
      rw [this, List.length_take]
      omega
    refine ⟨_, rfl, ⟨_, rfl⟩, ?_⟩
    simp only [wpOs, opd, PD.E.isVar, wpE, opsGet, Op.get, ht]
    refine ⟨rfl, ⟨rfl, _, rfl, _, _, rfl, rfl, _, _, rfl, rfl, take_ok b (by omega) (by omega) fun r r0 r1 => ?_⟩⟩
    refine ⟨_, rfl, _, es, rfl, rfl, ?_⟩
    have r1 : r < (es.length : Int) + 1 := r1
    refine ⟨⟨Nat.lt_of_lt_of_le (show es.length < 100000 by omega) (by decide), r0, by omega⟩, ?_⟩
    refine hk _ ⟨_, _, ?_, rfl⟩
    refine (perm_insert es y r.toNat).trans ?_
    rw [show 0 + j + 1 = j + 1 by omega, List.take_succ, hj]
    rw [show 0 + j = j by omega] at he
    exact he.append_right _
  · subst es_
    rw [show 0 + ds.length = ds.length by omega, List.take_length] at he
    exact h es he
/-- the same, by == and by the text -/
structure Plain (d : D) : Prop where
  lay : d.canLay0 = true
  dep : d.depth ≤ 64
  int : d.intsShort 13 = true
  shw : d.showable = true
  blk : d.bulk ≤ 2 ^ 20
theorem Plain.shp {d : D} (h : Plain d) : Shp d := by
  show (d.canLay0 && decide (d.depth ≤ 64)) = true
  rw [h.lay, decide_eq_true h.dep]
  rfl
theorem Plain.fit {d : D} (h : Plain d) : d.shown.length ≤ sizeLine := PyData.shown_fits_bulk (B := 13) (by decide) (by decide) (PyData.leavesShort_of_canLay0 13 d h.lay h.int) h.blk
theorem eqC_of {a b : D} (ha : Shp a) (hb : Shp b) : eqC (.d a) (.d b) := by
  unfold eqC
  split
  · exact True.intro
  · exact True.intro
  · rename_i e1 e2
    cases e1
    cases e2
    exact ⟨ha, hb⟩
  · rename_i n
    exact n _ _ rfl rfl
def alikeFn : Fn (WK K) := fun xs g R _ => ∃ d, xs = [.d d, .d d] ∧ Plain d ∧ R (.v (.d (.bool true))) g
theorem alikeFn_mono : Mono (alikeFn (K := K)) := fun xs g R R' Ex Ex' ⟨d, e, h1, h2⟩ q _ => ⟨d, e, h1, q _ _ h2⟩
def irAlike : List Stm := [.ret (.and (.cmp .eq (.var 0) (.var 1)) (.cmp .eq (.blt .repr (.cons (.var 0) .nil)) (.blt .repr (.cons (.var 1) .nil))))]
mutual
theorem eqv_self : ∀ d : D, d.canLay0 = true → PyData.eqv d d = true
  | .none, _ => rfl
  | .bool b, _ => by simp [PyData.eqv]
  | .int i, _ => by simp [PyData.eqv]
  | .str x, _ => by simp [PyData.eqv]
  | .list xs, h => by
    unfold PyData.eqv
    unfold PyData.canLay0 at h
    exact eqvAll_self xs h
  | .tuple xs, h => by
    unfold PyData.eqv
    unfold PyData.canLay0 at h
    exact eqvAll_self xs h
  | .dict _, h => by cases h
theorem eqvAll_self : ∀ ds : List D, PyData.canLayAll0 ds = true → PyData.eqvAll ds ds = true
  | [], _ => rfl
  | x :: xs, h => by
    unfold PyData.canLayAll0 at h
    rw [Bool.and_eq_true] at h
    unfold PyData.eqvAll
    rw [eqv_self x h.1, eqvAll_self xs h.2]
    rfl
end
theorem alike_wp {N : List Str} (hN : N.length = 2) {xs : List SV} {g : Bg} {R : Rs → Bg → Prop} {Ex : Exn → Bg → Prop} (h : alikeFn (K := K) xs g R Ex) : bodyFn Φ N 2 irAlike xs g R Ex := by
  obtain ⟨d, rfl, hd, h⟩ := h
  refine ⟨rfl, ?_⟩
  simp only [irAlike, wpSs, wpS, PD.E.isVar, wpE, wpOs, opd, hN]
  have e1 : eqB (.d d) (.d d) = true := eqv_self d hd.lay
  have e2 : eqB (.d (.str d.shown)) (.d (.str d.shown)) = true := by simp [eqB, PyData.eqv]
  refine ⟨rfl, rfl, _, _, rfl, rfl, eqC_of hd.shp hd.shp, ?_⟩
  rw [e1]
  refine ⟨_, true, rfl, rfl, ?_⟩
  rw [if_pos rfl]
  refine ⟨rfl, _, rfl, ⟨hd.shp, hd.shw, hd.fit⟩, rfl, _, rfl, ⟨hd.shp, hd.shw, hd.fit⟩, _, _, rfl, rfl, True.intro, ?_⟩
  show R (.v (.d (.bool (eqB (.d (.str d.shown)) (.d (.str d.shown)))))) g
  rw [e2]
  exact h
end
end PD
/-! PE2: small data; words of letters. -/
namespace PD
open PySem L2 PySem.Spec PySem.PyData

/-- data of a bounded depth and bulk -/
structure PlN (dep n : Nat) (d : D) : Prop where
  lay : d.canLay0 = true
  int : d.intsShort 13 = true
  shw : d.showable = true
  dep : d.depth ≤ dep
  blk : d.bulk ≤ n
theorem PlN.plain {dep n : Nat} {d : D} (h : PlN dep n d) (h1 : dep ≤ 64) (h2 : n ≤ 2 ^ 20) : Plain d := ⟨h.lay, Nat.le_trans h.dep h1, h.int, h.shw, Nat.le_trans h.blk h2⟩
theorem PlN.mono {dep n dep' n' : Nat} {d : D} (h : PlN dep n d) (h1 : dep ≤ dep') (h2 : n ≤ n') : PlN dep' n' d := ⟨h.lay, h.int, h.shw, Nat.le_trans h.dep h1, Nat.le_trans h.blk h2⟩
theorem PlN.shp {dep n : Nat} {d : D} (h : PlN dep n d) (h1 : dep ≤ 64) : Shp d := by
  show (d.canLay0 && decide (d.depth ≤ 64)) = true
  rw [h.lay, decide_eq_true (Nat.le_trans h.dep h1)]
  rfl
theorem pln_all {dep n : Nat} : ∀ {ds : List D}, (∀ d ∈ ds, PlN dep n d) → PyData.canLayAll0 ds = true ∧ PyData.intsShortAll 13 ds = true ∧ PyData.showableAll ds = true ∧ PyData.depthAll ds ≤ dep ∧ PyData.bulkAll ds ≤ ds.length * (n + 1)
  | [], _ => ⟨rfl, rfl, rfl, Nat.zero_le _, Nat.zero_le _⟩
  | d :: ds, h => by
    obtain ⟨a1, a2, a3, a4, a5⟩ := pln_all fun x hx => h x (List.mem_cons_of_mem _ hx)
    have hd := h d List.mem_cons_self
    unfold PyData.canLayAll0 PyData.intsShortAll PyData.showableAll PyData.depthAll PyData.bulkAll
    rw [a1, a2, a3, hd.lay, hd.int, hd.shw]
    refine ⟨rfl, rfl, rfl, Nat.max_le.mpr ⟨hd.dep, a4⟩, ?_⟩
    have := hd.blk
    rw [List.length_cons, Nat.add_mul, Nat.one_mul]
    omega
theorem PlN.list {dep n : Nat} {ds : List D} (h : ∀ d ∈ ds, PlN dep n d) : PlN (dep + 1) (ds.length * (n + 1)) (.list ds) := by
  obtain ⟨a1, a2, a3, a4, a5⟩ := pln_all h
  refine ⟨?_, ?_, ?_, ?_, ?_⟩
  · unfold PyData.canLay0; exact a1
  · unfold PyData.intsShort; exact a2
  · unfold PyData.showable; exact a3
  · unfold PyData.depth; exact Nat.succ_le_succ a4
  · unfold PyData.bulk; exact a5
theorem PlN.tuple {dep n : Nat} {ds : List D} (h : ∀ d ∈ ds, PlN dep n d) : PlN (dep + 1) (ds.length * (n + 1)) (.tuple ds) := by
  obtain ⟨a1, a2, a3, a4, a5⟩ := pln_all h
  refine ⟨?_, ?_, ?_, ?_, ?_⟩
  · unfold PyData.canLay0; exact a1
  · unfold PyData.intsShort; exact a2
  · unfold PyData.showable; exact a3
  · unfold PyData.depth; exact Nat.succ_le_succ a4
  · unfold PyData.bulk; exact a5
theorem PlN.str {n : Nat} {w : Str} (h : strOk w = true) (l : w.length ≤ n) : PlN 0 n (.str w) := by
  refine ⟨?_, rfl, rfl, Nat.le_refl _, ?_⟩
  · unfold PyData.canLay0; exact h
  · unfold PyData.bulk; exact l

/-! ### texts -/
/-- a text of at most n signs -/
structure TxOk (n : Nat) (w : Str) : Prop where
  ok : strOk w = true
  len : w.length ≤ n
theorem TxOk.mono {n m : Nat} {w : Str} (h : TxOk n w) (l : n ≤ m) : TxOk m w := ⟨h.ok, Nat.le_trans h.len l⟩
theorem strOk_iff {w : Str} : strOk w = true ↔ ∀ c ∈ w.cps.toList, c < 0x110000 := by
  unfold strOk
  rw [Array.all_eq_true']
  simp
theorem txOk_one {c : Nat} (h : c < 0x110000) : TxOk 1 ⟨#[c]⟩ := ⟨strOk_iff.mpr (by simpa using h), Nat.le_refl _⟩
theorem str_append_cps (a b : Str) : (a ++ b).cps.toList = a.cps.toList ++ b.cps.toList := by
  show (a.cps ++ b.cps).toList = _
  rw [Array.toList_append]
theorem str_len (a : Str) : a.cps.toList.length = a.length := by simp [Str.length]
theorem TxOk.append {n m : Nat} {a b : Str} (ha : TxOk n a) (hb : TxOk m b) : TxOk (n + m) (a ++ b) := by
  refine ⟨strOk_iff.mpr fun c hc => ?_, ?_⟩
  · rw [str_append_cps, List.mem_append] at hc
    rcases hc with hc | hc
    · exact strOk_iff.mp ha.ok c hc
    · exact strOk_iff.mp hb.ok c hc
  · rw [← str_len, str_append_cps, List.length_append, str_len, str_len]
    exact Nat.add_le_add ha.len hb.len
theorem txOk_empty : TxOk 0 Str.empty := ⟨strOk_iff.mpr fun c hc => (nomatch hc), Nat.le_refl _⟩
theorem TxOk.times {n : Nat} {a : Str} (h : TxOk n a) : ∀ k : Nat, TxOk (k * n) (timesS a k)
  | 0 => by rw [Nat.zero_mul]; exact txOk_empty
  | k + 1 => by
    rw [Nat.add_mul, Nat.one_mul]
    exact (TxOk.times h k).append h
theorem tx_joinS : ∀ {ys : List Str}, (∀ y ∈ ys, TxOk 1 y) → TxOk ys.length (Str.join "" ys)
  | [], _ => txOk_empty
  | [x], h => h x List.mem_cons_self
  | x :: y :: r, h => by
    have h1 := h x List.mem_cons_self
    have h2 := tx_joinS (ys := y :: r) fun z hz => h z (List.mem_cons_of_mem _ hz)
    have h0 : TxOk 0 ("" : Str) := txOk_empty
    have := (h1.append h0).append h2
    show TxOk _ (x ++ "" ++ Str.join "" (y :: r))
    refine this.mono ?_
    simp
    omega
theorem tx_join {ys : List Str} (h : ∀ y ∈ ys, TxOk 1 y) : TxOk ys.length (Txt.join "" ys) := by
  rw [show Txt.join "" ys = Str.join "" ys from PySem.StrLaws.glued_eq_join "" ys]
  exact tx_joinS h

/-! ### words: sequences of texts, adjacent twins struck; the stack's top ahead -/
def psh (acc : List Str) (w : Str) : List Str := match acc with
  | [] => [w]
  | a :: r => if a = w then r else w :: a :: r
theorem psh_nil (w : Str) : psh [] w = [w] := rfl
theorem psh_cons (a : Str) (r : List Str) (w : Str) : psh (a :: r) w = if a = w then r else w :: a :: r := rfl
def rdF (acc ws : List Str) : List Str := ws.foldl psh acc
def red (ws : List Str) : List Str := (rdF [] ws).reverse
def Irr : List Str → Prop
  | [] => True
  | [_] => True
  | a :: b :: r => a ≠ b ∧ Irr (b :: r)
theorem Irr.tail {a : Str} {r : List Str} (h : Irr (a :: r)) : Irr r := by
  cases r with
  | nil => exact True.intro
  | cons b r => exact h.2
theorem irr_psh {acc : List Str} (h : Irr acc) (w : Str) : Irr (psh acc w) := by
  cases acc with
  | nil => exact True.intro
  | cons a r =>
    rw [psh_cons]
    by_cases n : a = w
    · rw [if_pos n]
      exact h.tail
    · rw [if_neg n]
      exact ⟨fun e => n e.symm, h⟩
theorem psh_psh {acc : List Str} (h : Irr acc) (w : Str) : psh (psh acc w) w = acc := by
  cases acc with
  | nil => simp [psh]
  | cons a r =>
    rw [psh_cons]
    by_cases e : a = w
    · subst e
      rw [if_pos rfl]
      cases r with
      | nil => rfl
      | cons b r =>
        rw [psh_cons, if_neg fun q => h.1 q.symm]
    · rw [if_neg e, psh_cons, if_pos rfl]
theorem irr_rdF {ws : List Str} : ∀ {acc : List Str}, Irr acc → Irr (rdF acc ws) := by
  induction ws with
  | nil => exact fun h => h
  | cons w ws ih => exact fun h => ih (irr_psh h w)
theorem rdF_append (acc u v : List Str) : rdF acc (u ++ v) = rdF (rdF acc u) v := List.foldl_append
theorem rdF_snoc (acc u : List Str) (w : Str) : rdF acc (u ++ [w]) = psh (rdF acc u) w := by rw [rdF_append]; rfl
theorem rdF_twin {acc : List Str} (h : Irr acc) (u v : List Str) (a : Str) : rdF acc (u ++ (a :: a :: v)) = rdF acc (u ++ v) := by
  rw [rdF_append, rdF_append]
  show rdF (psh (psh (rdF acc u) a) a) v = _
  rw [psh_psh (irr_rdF h)]
theorem rdF_red {acc : List Str} (h : Irr acc) (ws : List Str) : rdF acc (red ws) = rdF acc ws := by
  unfold red
  generalize hn : ws.length = n
  induction n generalizing ws with
  | zero =>
    rw [List.length_eq_zero_iff.mp hn]
    rfl
  | succ n ih =>
    have hne : ws ≠ [] := fun e => by rw [e] at hn; cases hn
    rw [← List.dropLast_concat_getLast hne]
    generalize hv : ws.dropLast = vs
    generalize ws.getLast hne = w
    have hvn : vs.length = n := by rw [← hv, List.length_dropLast, hn]; rfl
    have key := ih vs hvn
    have irrS : Irr (rdF [] vs) := irr_rdF True.intro
    rw [rdF_snoc, rdF_snoc, ← key]
    generalize rdF [] vs = S at irrS
    cases S with
    | nil => rfl
    | cons a r =>
      rw [psh_cons]
      by_cases e : a = w
      · subst e
        rw [if_pos rfl, List.reverse_cons, rdF_snoc]
        exact (psh_psh (irr_rdF h) a).symm
      · rw [if_neg e, List.reverse_cons, rdF_snoc]
theorem red_l (u v : List Str) : red (red u ++ v) = red (u ++ v) := by
  unfold red
  rw [rdF_append, rdF_append]
  have := rdF_red (acc := []) True.intro u
  unfold red at this
  rw [this]
theorem red_r (u v : List Str) : red (u ++ red v) = red (u ++ v) := by
  have := rdF_red (acc := rdF [] u) (irr_rdF True.intro) v
  unfold red at this ⊢
  rw [rdF_append, rdF_append, this]
theorem red_red (u : List Str) : red (red u) = red u := by
  have := red_l u []
  simpa using this
theorem rdF_rev {acc : List Str} (h : Irr acc) (f : List Str) : rdF acc (f ++ f.reverse) = acc := by
  induction f generalizing acc with
  | nil => rfl
  | cons a t ih =>
    rw [List.reverse_cons, List.cons_append, ← List.append_assoc]
    show rdF (psh acc a) (t ++ t.reverse ++ [a]) = acc
    rw [rdF_snoc, ih (irr_psh h a), psh_psh h]
theorem red_rev (f : List Str) : red (f ++ f.reverse) = [] := by
  unfold red
  rw [rdF_rev (acc := []) True.intro]
  rfl
theorem red_rev2 (f : List Str) : red (f.reverse ++ f) = [] := by
  have := red_rev f.reverse
  rwa [List.reverse_reverse] at this
/-- no twins stand side by side -/
def NoTw (ws : List Str) : Prop := ∀ i a, ws[i]? = some a → ws[i + 1]? ≠ some a
theorem rdF_no {acc ws : List Str} (h : NoTw ws) (hd : ∀ a, acc.head? = some a → ws.head? ≠ some a) : rdF acc ws = ws.reverse ++ acc := by
  induction ws generalizing acc with
  | nil => rfl
  | cons w t ih =>
    have e : psh acc w = w :: acc := by
      cases acc with
      | nil => rfl
      | cons a r =>
        rw [psh_cons, if_neg fun e => hd a rfl (by rw [e]; rfl)]
    show rdF (psh acc w) t = _
    rw [e, ih (fun i a h1 => by simpa using h (i + 1) a (by simpa using h1)) (fun a ha => ?_)]
    · simp
    · cases ha
      have := h 0 w rfl
      cases t with
      | nil => simp
      | cons b t => simpa using this
theorem red_no {ws : List Str} (h : NoTw ws) : red ws = ws := by
  unfold red
  rw [rdF_no h (fun a ha => by cases ha)]
  simp
theorem red_twin (u v : List Str) (a : Str) : red (u ++ (a :: a :: v)) = red (u ++ v) := by
  unfold red
  rw [rdF_twin (acc := []) True.intro]
theorem rdF_mem {acc ws : List Str} {w : Str} (h : w ∈ rdF acc ws) : w ∈ acc ∨ w ∈ ws := by
  induction ws generalizing acc with
  | nil => exact .inl h
  | cons x t ih =>
    have h : w ∈ rdF (psh acc x) t := h
    rcases ih h with h | h
    · cases acc with
      | nil =>
        simp [psh] at h
        exact .inr (by simp [h])
      | cons a r =>
        rw [psh_cons] at h
        split at h
        · exact .inl (List.mem_cons_of_mem _ h)
        · rcases List.mem_cons.mp h with h | h
          · exact .inr (by simp [h])
          · exact .inl h
    · exact .inr (List.mem_cons_of_mem _ h)
theorem red_mem {ws : List Str} {w : Str} (h : w ∈ red ws) : w ∈ ws := by
  rcases rdF_mem (List.mem_reverse.mp h) with h | h
  · cases h
  · exact h
theorem rdF_len (acc ws : List Str) : (rdF acc ws).length ≤ acc.length + ws.length := by
  induction ws generalizing acc with
  | nil => exact Nat.le_refl _
  | cons x t ih =>
    show (rdF (psh acc x) t).length ≤ _
    have := ih (psh acc x)
    have h2 : (psh acc x).length ≤ acc.length + 1 := by
      cases acc with
      | nil => simp [psh]
      | cons a r =>
        rw [psh_cons]
        split <;> simp <;> omega
    simp
    omega
theorem red_len (ws : List Str) : (red ws).length ≤ ws.length := by
  unfold red
  rw [List.length_reverse]
  have := rdF_len [] ws
  simpa using this
end PD
/-! PE3: the defs of the words' law. -/
namespace PD
open PySem L2 PySem.Spec PySem.PyData
section
variable {K : PySem.W.Frag} {Φ : Tab (WK K)}
abbrev stL (ws : List Str) : List D := ws.map PyData.str
theorem stL_append (u v : List Str) : stL (u ++ v) = stL u ++ stL v := List.map_append
def WsOk (n : Nat) (ws : List Str) : Prop := ∀ w ∈ ws, TxOk n w
theorem ws_pln {n : Nat} {ws : List Str} (h : WsOk n ws) : ∀ d ∈ stL ws, PlN 0 n d := fun d hd => by
  obtain ⟨w, hw, rfl⟩ := List.mem_map.mp hd
  exact PlN.str (h w hw).ok (h w hw).len
theorem shp_strs {n : Nat} {ws : List Str} (h : WsOk n ws) : Shp (.list (stL ws)) := (PlN.list (ws_pln h)).shp (by decide)
theorem shp_nil : Shp (.list []) := rfl
theorem eqB_nil {ws : List D} : eqB (.d (.list ws)) (.d (.list [])) = ws.isEmpty := by
  cases ws <;> rfl
theorem eqB_str {a b : Str} : eqB (.d (.str a)) (.d (.str b)) = (a == b) := rfl

theorem eqW_of {x y : SV} {b : Bool} {Q : Bool → Prop} (hc : eqC x y) (hb : eqB x y = b) (q : Q b) : cmpW .eq x y Q := ⟨hc, by rw [hb]; exact q⟩
theorem neW_of {x y : SV} {b : Bool} {Q : Bool → Prop} (hc : eqC x y) (hb : eqB x y = b) (q : Q (!b)) : cmpW .ne x y Q := ⟨hc, by rw [hb]; exact q⟩
def reducedFn : Fn (WK K) := fun xs g R _ => ∃ ws, xs = [.d (.tuple (stL ws))] ∧ ws.length < 10000 ∧ WsOk 64 ws ∧ R (.v (.d (.tuple (stL (red ws))))) g
theorem reducedFn_mono : Mono (reducedFn (K := K)) := fun xs g R R' Ex Ex' ⟨ws, e, h1, h2, h⟩ q _ => ⟨ws, e, h1, h2, q _ _ h⟩
def irReduced : List Stm := [.asg (.nm 1) (.lst .nil), .forr (.nm 2) (.seq (.var 0)) [.ife (.and (.cmp .ne (.var 1) (.lst .nil)) (.cmp .eq (.idx (.var 1) (.neg (.cst (.int 1)))) (.var 2))) [.expr (.mut .pop 1 .nil)] [.expr (.mut .append 1 (.cons (.var 2) .nil))]], .ret (.blt .tuple (.cons (.var 1) .nil))]
theorem at_last {α : Type} (l : List α) (x : α) : atI (l ++ [x]) (-1) = some x := by
  have e : ixN (l ++ [x]).length (-1) = some l.length := by
    unfold ixN
    rw [if_neg (by decide), List.length_append, if_pos (by simp; omega)]
    congr 1
    simp
    omega
  unfold atI
  rw [e]
  simp
theorem reduced_wp {N : List Str} (hN : N.length = 3) {xs : List SV} {g : Bg} {R : Rs → Bg → Prop} {Ex : Exn → Bg → Prop} (h : reducedFn (K := K) xs g R Ex) : bodyFn Φ N 1 irReduced xs g R Ex := by
  obtain ⟨ws, rfl, hl, ok, h⟩ := h
  refine ⟨rfl, ?_⟩
  simp only [irReduced, wpSs, wpS, PD.E.isVar, wpE, wpEs, wpI, opd, hN, wpT]
  refine ⟨[], rfl, Nat.zero_le _, ?_⟩
  simp only [List.map, List.length, List.replicate, List.cons_append, List.nil_append, SS.put, Rs.sl, List.set, Nat.reduceSub, Nat.reduceAdd]
  refine ⟨rfl, _, stL ws, rfl, rfl, ?_⟩
  refine forL_inv (fun i s => ∃ o, s = ⟨[.val (.d (.tuple (stL ws))), .own (.list (stL (red (ws.take i)))), o], g⟩) (stL ws) 0 _ ⟨.un, rfl⟩ (fun _ _ _ => True.intro) (fun j y s hj ⟨o, es⟩ k hk => ?_) (fun s ⟨o, es⟩ => ?_)
  · subst es
    rw [List.getElem?_map] at hj
    cases hw : ws[j]? with
    | none => rw [hw] at hj; cases hj
    | some w =>
      rw [hw] at hj
      cases hj
      have jl : j < ws.length := (List.getElem?_eq_some_iff.mp hw).1
      rw [show 0 + j = j by omega]
      have st1 : red (ws.take (0 + j + 1)) = (psh (rdF [] (ws.take j)) w).reverse := by
        rw [show 0 + j + 1 = j + 1 by omega, List.take_succ, hw]
        show (rdF [] (ws.take j ++ [w])).reverse = _
        rw [rdF_snoc]
      have okr : WsOk 64 (red (ws.take j)) := fun v hv => ok v (List.take_subset _ _ (red_mem hv))
      have lenr : (red (ws.take j)).length < sizeLine := Nat.lt_of_le_of_lt (red_len _) (Nat.lt_of_le_of_lt (by rw [List.length_take]; omega : (ws.take j).length ≤ 10000) (by decide))
      rw [st1] at hk
      unfold red at okr lenr ⊢
      generalize rdF [] (ws.take j) = S at okr lenr hk
      refine ⟨_, rfl, rfl, [], rfl, Nat.zero_le _, _, _, rfl, rfl, neW_of (eqC_of (shp_strs okr) shp_nil) eqB_nil ?_⟩
      cases S with
      | nil =>
        refine ⟨_, false, rfl, rfl, _, false, rfl, rfl, ⟨_, rfl⟩, ?_⟩
        refine ⟨_, rfl, _, [], rfl, rfl, lenr, ?_⟩
        exact hk _ ⟨_, rfl⟩
      | cons a r =>
        have ne : (stL (a :: r).reverse).isEmpty = false := by simp
        rw [ne]
        have sp : stL (a :: r).reverse = stL r.reverse ++ [.str a] := by simp
        refine ⟨_, true, rfl, rfl, ?_⟩
        rw [if_pos rfl]
        refine ⟨rfl, _, rfl, .str a, ?_, rfl, _, _, rfl, rfl, eqW_of True.intro (eqB_str (a := a) (b := w)) ?_⟩
        · rw [sp]
          exact at_last _ _
        · by_cases e : a = w
          · subst e
            rw [beq_self_eq_true]
            refine ⟨_, true, rfl, rfl, ⟨_, rfl⟩, [], _, rfl, rfl, .str a, ?_, ?_⟩
            · rw [sp]
              simp
            · refine hk _ ⟨.val (.d (.str a)), ?_⟩
              rw [psh_cons, if_pos rfl, sp, List.dropLast_concat]
              rfl
          · rw [beq_false_of_ne e]
            refine ⟨_, false, rfl, rfl, ⟨_, rfl⟩, _, rfl, _, _, rfl, rfl, by rw [List.length_map]; exact lenr, ?_⟩
            refine hk _ ⟨.val (.d (.str w)), ?_⟩
            rw [psh_cons, if_neg e, List.reverse_cons (a := w), show stL ((a :: r).reverse ++ [w]) = stL (a :: r).reverse ++ [.str w] from List.map_append]
            rfl
  · subst es
    rw [show 0 + (stL ws).length = ws.length by simp, List.take_length]
    exact ⟨rfl, _, rfl, h⟩

def joinedFn : Fn (WK K) := fun xs g R _ => ∃ u v, xs = [.d (.tuple (stL u)), .d (.tuple (stL v))] ∧ u.length + v.length < 10000 ∧ WsOk 64 (u ++ v) ∧ R (.v (.d (.tuple (stL (red (u ++ v)))))) g
theorem joinedFn_mono : Mono (joinedFn (K := K)) := fun xs g R R' Ex Ex' ⟨u, v, e, h1, h2, h⟩ q _ => ⟨u, v, e, h1, h2, q _ _ h⟩
def irJoined : List Stm := [.ret (.call "reduced" (.cons (.bin .add (.var 0) (.var 1)) .nil))]
theorem joined_wp (hr : Φ "reduced" = some reducedFn) {N : List Str} (hN : N.length = 2) {xs : List SV} {g : Bg} {R : Rs → Bg → Prop} {Ex : Exn → Bg → Prop} (h : joinedFn (K := K) xs g R Ex) : bodyFn Φ N 2 irJoined xs g R Ex := by
  obtain ⟨u, v, rfl, hl, ok, h⟩ := h
  refine ⟨rfl, ?_⟩
  simp only [irJoined, wpSs, wpS, PD.E.isVar, wpE, wpOs, opd, hN, hr]
  have hz : (stL u).length + (stL v).length ≤ sizeLine := by
    rw [List.length_map, List.length_map]
    exact Nat.le_trans (Nat.le_of_lt hl) (by decide)
  refine ⟨rfl, rfl, _, _, rfl, rfl, hz, _, _, rfl, rfl, u ++ v, ?_, by rw [List.length_append]; exact hl, ok, ?_⟩
  · show [SV.d (.tuple (stL u ++ stL v))] = _
    rw [stL_append]
  · exact h
def inverseFn : Fn (WK K) := fun xs g R _ => ∃ ds, xs = [.d (.tuple ds)] ∧ R (.v (.d (.tuple ds.reverse))) g
theorem inverseFn_mono : Mono (inverseFn (K := K)) := fun xs g R R' Ex Ex' ⟨u, e, h⟩ q _ => ⟨u, e, q _ _ h⟩
def irInverse : List Stm := [.ret (.rev (.var 0))]
theorem inverse_wp {N : List Str} (hN : N.length = 1) {xs : List SV} {g : Bg} {R : Rs → Bg → Prop} {Ex : Exn → Bg → Prop} (h : inverseFn (K := K) xs g R Ex) : bodyFn Φ N 1 irInverse xs g R Ex := by
  obtain ⟨u, rfl, h⟩ := h
  refine ⟨rfl, ?_⟩
  simp only [irInverse, wpSs, wpS, PD.E.isVar, wpE, opd, hN]
  exact ⟨rfl, _, rfl, h⟩

/-! ### _law_struck -/
def struckFn : Fn (WK K) := fun xs g R _ => ∃ p ws, Bagged g p ∧ xs = [.r (.ref p), .d (.tuple (stL ws))] ∧ ws.length < 10000 ∧ WsOk 64 ws ∧ R (.v (.d (.tuple (stL (red ws))))) g
theorem struckFn_mono : Mono (struckFn (K := K)) := fun xs g R R' Ex Ex' ⟨p, ws, b, e, h1, h2, h⟩ q _ => ⟨p, ws, b, e, h1, h2, q _ _ h⟩
def irStruck : List Stm := [.asg (.nm 2) (.blt .list (.cons (.var 1) .nil)), .forr (.nm 3) (.rng1 (.bin .add (.blt .len (.cons (.var 1) .nil)) (.cst (.int 1)))) [.asg (.nm 4) (.comp (.nm 5) (.rng1 (.bin .sub (.blt .len (.cons (.var 2) .nil)) (.cst (.int 1)))) (.cons (.cmp .eq (.idx (.var 2) (.var 5)) (.idx (.var 2) (.bin .add (.var 5) (.cst (.int 1))))) .nil) (.var 5) [5]),
  .ife (.cmp .ne (.var 4) (.lst .nil)) [.asg (.nm 5) (.call "_law_some" (.cons (.var 0) (.cons (.var 4) .nil))), .asg (.nm 2) (.bin .add (.cut (.var 2) .none (.some (.var 5))) (.cut (.var 2) (.some (.bin .add (.var 5) (.cst (.int 2)))) .none))] []], .ret (.blt .tuple (.cons (.var 2) .nil))]
def intD (l : List Nat) : List D := l.map fun (n : Nat) => PyData.int (n : Int)
theorem shp_intD (l : List Nat) : Shp (.list (intD l)) := by
  have h1 : PyData.canLayAll0 (intD l) = true := by
    induction l with
    | nil => rfl
    | cons a l ih => exact ih
  have h2 : ∀ l : List Nat, PyData.depthAll (intD l) = 0 := fun l => by
    induction l with
    | nil => rfl
    | cons a l ih =>
      show max (PyData.depth (.int a)) (PyData.depthAll (intD l)) = 0
      rw [ih]
      rfl
  show (PyData.canLay0 (.list (intD l)) && decide (PyData.depth (.list (intD l)) ≤ 64)) = true
  unfold PyData.canLay0 PyData.depth
  rw [h1, h2]
  rfl
/-- the places of twins below n -/
def twins (ws : List Str) (n : Nat) : List Nat := (List.range n).filter fun i => ws[i]? == ws[i + 1]?
theorem twins_succ (ws : List Str) (n : Nat) : twins ws (n + 1) = twins ws n ++ (if (ws[n]? == ws[n + 1]?) = true then [n] else []) := by
  unfold twins
  rw [List.range_succ, List.filter_append, List.filter_cons]
  split <;> rfl
theorem rngI_at {n j : Nat} {x : D} (h : (rngI 0 n)[j]? = some x) : j < n ∧ x = .int j := by
  unfold rngI at h
  rw [List.getElem?_map] at h
  cases e : (List.range n)[j]? with
  | none => rw [e] at h; cases h
  | some k =>
    rw [e] at h
    have hk := List.getElem?_eq_some_iff.mp e
    obtain ⟨h1, h2⟩ := hk
    simp at h1 h2
    subst h2
    cases h
    exact ⟨h1, by simp⟩
theorem rngI_len (lo : Int) (n : Nat) : (rngI lo n).length = n := by simp [rngI]
theorem at_nat {α : Type} {l : List α} {i : Nat} {x : α} (h : l[i]? = some x) : atI l (i : Int) = some x := by
  have hi := (List.getElem?_eq_some_iff.mp h).1
  unfold atI ixN
  rw [if_pos (by omega), if_pos (by omega)]
  simpa using h
theorem cut_to {α : Type} (l : List α) (i : Nat) (h : i ≤ l.length) : cutD l none (some (i : Int)) = l.take i := by
  unfold cutD
  rw [HT.sIx_nat, HT.sIx_none, Nat.min_eq_left h]
  simp
theorem cut_from {α : Type} (l : List α) (i : Nat) (h : i ≤ l.length) : cutD l (some (i : Int)) none = l.drop i := by
  unfold cutD
  rw [HT.sIx_nat, HT.sIx_none, Nat.min_eq_left h]
  exact List.take_of_length_le (by simp)
theorem twins_in {ws : List Str} {i : Nat} (h : i ∈ twins ws (ws.length - 1)) : ∃ u a v, ws = u ++ (a :: a :: v) ∧ u.length = i := by
  unfold twins at h
  rw [List.mem_filter, List.mem_range] at h
  obtain ⟨h1, h2⟩ := h
  have e1 : ws[i]? = some (ws[i]'(by omega)) := List.getElem?_eq_getElem (by omega)
  have e2 : ws[i + 1]? = some (ws[i + 1]'(by omega)) := List.getElem?_eq_getElem (by omega)
  rw [e1, e2] at h2
  have e3 : ws[i]'(by omega) = ws[i + 1]'(by omega) := by simpa using h2
  refine ⟨ws.take i, ws[i]'(by omega), ws.drop (i + 2), ?_, by rw [List.length_take]; omega⟩
  conv => lhs; rw [← List.take_append_drop i ws]
  rw [List.drop_eq_getElem_cons (by omega), List.drop_eq_getElem_cons (by omega), ← e3]
theorem twins_none {ws : List Str} (h : twins ws (ws.length - 1) = []) : NoTw ws := by
  intro i a h1 h2
  have hi : i + 1 < ws.length := (List.getElem?_eq_some_iff.mp h2).1
  have : i ∈ twins ws (ws.length - 1) := by
    unfold twins
    rw [List.mem_filter, List.mem_range]
    exact ⟨by omega, by rw [h1, h2]; simp⟩
  rw [h] at this
  cases this
theorem struck_wp (hs : Φ "_law_some" = some someFn) {N : List Str} (hN : N.length = 6) {xs : List SV} {g : Bg} {R : Rs → Bg → Prop} {Ex : Exn → Bg → Prop} (h : struckFn (K := K) xs g R Ex) : bodyFn Φ N 2 irStruck xs g R Ex := by
  obtain ⟨p, ws, b, rfl, hl, ok, h⟩ := h
  refine ⟨rfl, ?_⟩
  simp only [irStruck, wpSs, wpS, PD.E.isVar, wpE, wpEs, wpOs, wpIfs, wpI, opd, hN, wpT, hs]
  refine ⟨rfl, _, rfl, ?_⟩
  simp only [List.map, List.length, List.replicate, List.cons_append, List.nil_append, SS.put, Rs.sl, List.set, Nat.reduceSub, Nat.reduceAdd]
  refine ⟨rfl, _, rfl, _, _, rfl, rfl, _, rfl, ?_, ?_⟩
  · rw [List.length_map]
    constructor <;> omega
  · refine forL_inv (fun i s => ∃ l o3 o4 o5, red l = red ws ∧ (∀ w ∈ l, w ∈ ws) ∧ (NoTw l ∨ l.length + 2 * i ≤ ws.length) ∧ l.length ≤ ws.length ∧ s = ⟨[.val (.r (.ref p)), .val (.d (.tuple (stL ws))), .own (.list (stL l)), o3, o4, o5], g⟩) _ 0 _ ⟨ws, .un, .un, .un, rfl, fun _ h => h, .inr (by omega), Nat.le_refl _, rfl⟩ (fun _ _ _ => True.intro)
      (fun j y s hj ⟨l, o3, o4, o5, e1, e2, e3, e4, es⟩ k hk => ?_) (fun s ⟨l, o3, o4, o5, e1, e2, e3, e4, es⟩ => ?_)
    · subst es
      refine ⟨_, rfl, rfl, _, rfl, _, _, rfl, rfl, _, rfl, ?_, ?_⟩
      · show -(2 ^ 62) ≤ ((stL l).length : Int) - 1 ∧ ((stL l).length : Int) - 1 < 2 ^ 62
        rw [List.length_map]
        constructor <;> omega
      · have hn : (((stL l).length : Int) - 1).toNat = l.length - 1 := by rw [List.length_map]; omega
        show compL _ _ (rngI 0 (((stL l).length : Int) - 1).toNat) _ _ _
        rw [hn]
        refine compL_inv (fun i acc s => ∃ o, (i ≤ l.length ∧ acc = intD (twins l i)) ∧ s = ⟨[.val (.r (.ref p)), .val (.d (.tuple (stL ws))), .own (.list (stL l)), .val (.d y), o4, o], g⟩) _ 0 [] _ ⟨.un, ⟨Nat.zero_le _, rfl⟩, by cases o5 <;> rfl⟩ (fun i acc s ⟨o, ⟨il, e⟩, _⟩ => ?_) (fun i x acc s hx ⟨o, ⟨il, e⟩, es⟩ k hy hz => ?_) (fun acc s ⟨o, ⟨il, e⟩, es⟩ => ?_)
        · subst e
          refine ⟨(fun i hi => nomatch hi), ?_⟩
          have h1 : (twins l i).length ≤ i := by
            have := List.length_filter_le (fun i => l[i]? == l[i + 1]?) (List.range i)
            simpa [twins] using this
          refine Nat.lt_of_le_of_lt (show (intD (twins l i)).length ≤ 10000 from ?_) (by decide)
          unfold intD
          rw [List.length_map]
          omega
        · subst es
          obtain ⟨hi, rfl⟩ := rngI_at hx
          obtain ⟨a, ha⟩ : ∃ a, l[i]? = some a := ⟨l[i]'(by omega), List.getElem?_eq_getElem (by omega)⟩
          obtain ⟨b', hb⟩ : ∃ b, l[i + 1]? = some b := ⟨l[i + 1]'(by omega), List.getElem?_eq_getElem (by omega)⟩
          have ha' : (stL l)[i]? = some (.str a) := by rw [List.getElem?_map, ha]; rfl
          have hb' : (stL l)[i + 1]? = some (.str b') := by rw [List.getElem?_map, hb]; rfl
          have tw := twins_succ l i
          rw [ha, hb] at tw
          rw [show 0 + i = i by omega] at e
          refine ⟨_, rfl, rfl, _, rfl, _, rfl, .str a, at_nat ha', rfl, rfl, _, _, rfl, rfl, _, rfl, .str b', at_nat (i := i + 1) hb', _, _, rfl, rfl, eqW_of True.intro (eqB_str (a := a) (b := b')) ?_⟩
          by_cases q : a = b'
          · subst q
            rw [beq_self_eq_true]
            refine ⟨_, true, rfl, rfl, ?_⟩
            rw [if_pos rfl, if_pos True.intro]
            refine ⟨_, rfl, _, rfl, hy _ _ ⟨.val (.d (.int i)), ⟨by omega, ?_⟩, rfl⟩⟩
            rw [show 0 + i + 1 = i + 1 by omega, tw, e]
            simp [intD]
          · rw [beq_false_of_ne q]
            refine ⟨_, false, rfl, rfl, ?_⟩
            rw [if_neg Bool.false_ne_true, if_neg Bool.false_ne_true]
            refine hz _ ⟨.val (.d (.int i)), ⟨by omega, ?_⟩, rfl⟩
            rw [show 0 + i + 1 = i + 1 by omega, tw, e]
            simp [intD, q]
        · subst es
          rw [rngI_len, show 0 + (l.length - 1) = l.length - 1 by omega] at e
          subst e
          refine ⟨rfl, [], rfl, Nat.zero_le _, _, _, rfl, rfl, neW_of (eqC_of (shp_intD _) shp_nil) eqB_nil ?_⟩
          by_cases q : twins l (l.length - 1) = []
          · rw [q]
            refine ⟨_, false, rfl, rfl, ?_⟩
            rw [if_neg Bool.false_ne_true]
            exact hk _ ⟨l, _, _, _, e1, e2, .inl (twins_none q), e4, rfl⟩
          · have ne : (intD (twins l (l.length - 1))).isEmpty = false := by
              cases z : twins l (l.length - 1) with
              | nil => exact absurd z q
              | cons a r => rfl
            rw [ne]
            refine ⟨_, true, rfl, rfl, ?_⟩
            rw [if_pos rfl]
            have hlen : (intD (twins l (l.length - 1))).length ≤ 10000 := by
              have := List.length_filter_le (fun i => l[i]? == l[i + 1]?) (List.range (l.length - 1))
              unfold intD twins
              rw [List.length_map]
              simp at this
              omega
            refine ⟨rfl, rfl, _, _, rfl, rfl, p, _, b, rfl, .inl ⟨_, rfl, ?_, Nat.lt_of_le_of_lt hlen (by decide), fun d hd => ?_⟩⟩
            · cases z : intD (twins l (l.length - 1)) with
              | nil => rw [z] at ne; cases ne
              | cons a r => exact Nat.succ_pos _
            · obtain ⟨i, hi, rfl⟩ := List.mem_map.mp hd
              obtain ⟨u, a, v, hl1, hl2⟩ := twins_in hi
              have ct : ∀ K : Rs → Prop, K (.f (.list (stL u))) → cutW (.d (.list (stL l))) none (some (i : Int)) K := fun K h => by
                show K (.f (.list (cutD (stL l) none (some (i : Int)))))
                rw [cut_to _ _ (by rw [List.length_map, hl1]; simp; omega), hl1, stL_append, ← hl2]
                rw [show (stL u ++ stL (a :: a :: v)).take u.length = stL u by rw [List.take_append_of_le_length (by simp), List.take_of_length_le (by simp)]]
                exact h
              have cf : ∀ K : Rs → Prop, K (.f (.list (stL v))) → cutW (.d (.list (stL l))) (some ((i + 2 : Nat) : Int)) none K := fun K h => by
                show K (.f (.list (cutD (stL l) (some ((i + 2 : Nat) : Int)) none)))
                rw [cut_from _ _ (by rw [List.length_map, hl1]; simp; omega), hl1, stL_append, ← hl2]
                rw [show (stL u ++ stL (a :: a :: v)).drop (u.length + 2) = stL v by
                  rw [List.drop_append]
                  simp]
                exact h
              have hl3 : l.length = u.length + v.length + 2 := by rw [hl1]; simp; omega
              refine ⟨rfl, _, rfl, i, rfl, _, rfl, ct _ ?_⟩
              refine ⟨rfl, rfl, _, _, rfl, rfl, _, rfl, _, rfl, cf _ ?_⟩
              refine ⟨_, _, rfl, rfl, ?_, ?_⟩
              · rw [List.length_map, List.length_map]
                exact Nat.le_trans (show u.length + v.length ≤ 10000 by omega) (by decide)
              · refine hk _ ⟨u ++ v, _, _, _, ?_, fun w hw => e2 w ?_, ?_, ?_, by rw [stL_append]; rfl⟩
                · rw [← e1, hl1, red_twin]
                · rw [hl1]
                  rcases List.mem_append.mp hw with h | h
                  · exact List.mem_append_left _ h
                  · exact List.mem_append_right _ (List.mem_cons_of_mem _ (List.mem_cons_of_mem _ h))
                · rcases e3 with h | h
                  · refine absurd ?_ (h u.length a (by rw [hl1]; simp))
                    rw [hl1]
                    simp
                  · refine .inr ?_
                    rw [List.length_append]
                    omega
                · rw [List.length_append]
                  omega
    · subst es
      have nt : NoTw l := by
        rcases e3 with h | h
        · exact h
        · exfalso
          rw [rngI_len] at h
          have : (((stL ws).length : Int) + 1).toNat = ws.length + 1 := by rw [List.length_map]; omega
          have h : l.length + 2 * (0 + (((stL ws).length : Int) + 1).toNat) ≤ ws.length := h
          rw [this] at h
          omega
      refine ⟨rfl, _, rfl, ?_⟩
      rw [← e1, red_no nt] at h
      exact h
end
end PD
/-! PE4: nested words. -/
namespace PD
open PySem L2 PySem.Spec PySem.PyData
section
variable {K : PySem.W.Frag} {Φ : Tab (WK K)}
def nestedFn : Fn (WK K) := fun xs g R _ => ∃ p ns, Bagged g p ∧ xs = [.r (.ref p), .d (.list (stL ns))] ∧ 0 < ns.length ∧ ns.length < 1000 ∧ ∀ ws, (∀ w ∈ ws, w ∈ ns) → ws.length ≤ 60 → R (.v (.d (.tuple (stL ws)))) g
theorem nestedFn_mono : Mono (nestedFn (K := K)) := fun xs g R R' Ex Ex' ⟨p, ws, b, e, h1, h2, h⟩ q _ => ⟨p, ws, b, e, h1, h2, fun ws a c => q _ _ (h ws a c)⟩
def eGrow : E := .ife (.cmp .eq (.var 5) (.cst (.int 0))) (.bin .add (.var 2) (.lst (.cons (.var 4) .nil))) (.ife (.cmp .eq (.var 5) (.cst (.int 1))) (.bin .add (.bin .add (.lst (.cons (.var 4) .nil)) (.var 2)) (.lst (.cons (.var 4) .nil))) (.bin .add (.var 2) (.lst (.cons (.var 4) (.cons (.var 4) .nil)))))
def eTwice : E := .ife (.and (.cmp .eq (.var 5) (.cst (.int 3))) (.cmp .lt (.blt .len (.cons (.var 2) .nil)) (.cst (.int 20)))) (.bin .add (.var 2) (.rev (.var 2))) (.var 2)
def irNested : List Stm := [.asg (.nm 2) (.lst .nil), .forr (.nm 3) (.rng1 (.call "_law_take" (.cons (.var 0) (.cons (.cst (.int 9)) .nil)))) [.par [4, 5] (.cons (.call "_law_some" (.cons (.var 0) (.cons (.var 1) .nil))) (.cons (.call "_law_take" (.cons (.var 0) (.cons (.cst (.int 4)) .nil))) .nil)), .asg (.nm 2) eGrow, .asg (.nm 2) eTwice], .ret (.blt .tuple (.cons (.var 2) .nil))]
def lsl (b : Bool) (ws : List Str) : Sl := if b = true then .own (.list (stL ws)) else .val (.d (.list (stL ws)))
theorem grow_wp {x0 x1 o3 : Sl} {b : Bool} {ws : List Str} {w : Str} {k : Int} {g : Bg} {xq : XQ (WK K)} {Q : Rs → SS (WK K) → Prop} (hl : ws.length ≤ 1000) (h : ∀ ws', (∀ v ∈ ws', v = w ∨ v ∈ ws) → ws'.length ≤ ws.length + 2 → Q (.f (.list (stL ws'))) ⟨[x0, x1, lsl b ws, o3, .val (.d (.str w)), .val (.d (.int k))], g⟩) :
    wpE Φ eGrow xq ⟨[x0, x1, lsl b ws, o3, .val (.d (.str w)), .val (.d (.int k))], g⟩ Q := by
  have z1 : (stL ws).length + 1 ≤ sizeLine := by rw [List.length_map]; exact Nat.le_trans (show _ ≤ 1001 by omega) (by decide)
  have z2 : 1 + (stL ws).length ≤ sizeLine := by rw [Nat.add_comm]; exact z1
  have z3 : (stL ws).length + 2 ≤ sizeLine := by rw [List.length_map]; exact Nat.le_trans (show _ ≤ 1002 by omega) (by decide)
  have z4 : (.str w :: stL ws).length + 1 ≤ sizeLine := z3
  have y1 : 1 ≤ sizeLine := by decide
  have y2 : 2 ≤ sizeLine := by decide
  simp only [eGrow, wpE, wpEs, opd, PD.E.isVar]
  refine ⟨rfl, _, _, rfl, rfl, eqW_of (b := k == 0) True.intro rfl ?_⟩
  cases k == 0 with
  | true =>
    refine ⟨_, true, rfl, rfl, ?_⟩
    rw [if_pos rfl]
    refine ⟨by cases b <;> rfl, _, rfl, _, rfl, y1, .d (.list (stL ws)), _, by cases b <;> rfl, rfl, z1, ?_⟩
    have := h (ws ++ [w]) (fun v hv => by simp at hv; exact hv.symm) (by simp)
    rw [stL_append] at this
    exact this
  | false =>
    refine ⟨_, false, rfl, rfl, ?_⟩
    rw [if_neg Bool.false_ne_true]
    refine ⟨rfl, _, _, rfl, rfl, eqW_of (b := k == 1) True.intro rfl ?_⟩
    cases k == 1 with
    | true =>
      refine ⟨_, true, rfl, rfl, ?_⟩
      rw [if_pos rfl]
      refine ⟨_, rfl, _, rfl, y1, by cases b <;> rfl, _, .d (.list (stL ws)), rfl, by cases b <;> rfl, z2, _, rfl, _, rfl, y1, _, _, rfl, rfl, z4, ?_⟩
      have := h ([w] ++ ws ++ [w]) (fun v hv => by
        simp at hv
        rcases hv with z | z | z
        · exact .inl z
        · exact .inr z
        · exact .inl z) (by simp)
      rw [stL_append] at this
      exact this
    | false =>
      refine ⟨_, false, rfl, rfl, ?_⟩
      rw [if_neg Bool.false_ne_true]
      refine ⟨by cases b <;> rfl, _, rfl, _, rfl, _, rfl, y2, .d (.list (stL ws)), _, by cases b <;> rfl, rfl, z3, ?_⟩
      have := h (ws ++ [w, w]) (fun v hv => by simp at hv; exact hv.symm) (by simp)
      rw [stL_append] at this
      exact this
theorem twice_wp {x0 x1 o3 o4 : Sl} {ws : List Str} {k : Int} {g : Bg} {xq : XQ (WK K)} {Q : Rs → SS (WK K) → Prop} (hl : ws.length ≤ 1000) (h1 : ws.length < 20 → Q (.f (.list (stL (ws ++ ws.reverse)))) ⟨[x0, x1, lsl true ws, o3, o4, .val (.d (.int k))], g⟩)
    (h2 : Q (.v (.d (.list (stL ws)))) ⟨[x0, x1, lsl false ws, o3, o4, .val (.d (.int k))], g⟩) : wpE Φ eTwice xq ⟨[x0, x1, lsl true ws, o3, o4, .val (.d (.int k))], g⟩ Q := by
  simp only [eTwice, wpE, wpEs, wpOs, opd, PD.E.isVar]
  refine ⟨rfl, _, _, rfl, rfl, eqW_of (b := k == 3) True.intro rfl ?_⟩
  cases k == 3 with
  | false =>
    refine ⟨_, false, rfl, rfl, ?_⟩
    rw [if_neg Bool.false_ne_true]
    refine ⟨_, false, rfl, rfl, ?_⟩
    rw [if_neg Bool.false_ne_true]
    exact ⟨_, rfl, h2⟩
  | true =>
    refine ⟨_, true, rfl, rfl, ?_⟩
    rw [if_pos rfl]
    refine ⟨rfl, _, rfl, _, _, rfl, rfl, ?_⟩
    by_cases hz : ws.length < 20
    · have e : decide (((stL ws).length : Int) < 20) = true := by rw [List.length_map]; exact decide_eq_true (by omega)
      refine ⟨_, true, rfl, by show some (decide (((stL ws).length : Int) < 20)) = some true; rw [e], ?_⟩
      rw [if_pos rfl]
      refine ⟨rfl, rfl, _, rfl, _, _, rfl, rfl, ?_, ?_⟩
      · rw [List.length_reverse, List.length_map]
        exact Nat.le_trans (show _ ≤ 40 by omega) (by decide)
      · have := h1 hz
        rw [stL_append, show stL ws.reverse = (stL ws).reverse from List.map_reverse] at this
        exact this
    · have e : decide (((stL ws).length : Int) < 20) = false := by rw [List.length_map]; exact decide_eq_false (by omega)
      refine ⟨_, false, rfl, by show some (decide (((stL ws).length : Int) < 20)) = some false; rw [e], ?_⟩
      rw [if_neg Bool.false_ne_true]
      exact ⟨_, rfl, h2⟩
theorem nested_wp (hΦ : ∀ f F, Φ f = some F → Mono F) (ht : Φ "_law_take" = some takeFn) (hs : Φ "_law_some" = some someFn) {N : List Str} (hN : N.length = 6) {xs : List SV} {g : Bg} {R : Rs → Bg → Prop} {Ex : Exn → Bg → Prop} (h : nestedFn (K := K) xs g R Ex) : bodyFn Φ N 2 irNested xs g R Ex := by
  obtain ⟨p, ns, bg, rfl, n0, n1, h⟩ := h
  refine ⟨rfl, ?_⟩
  have hz : (0 : Nat) ≤ sizeLine := by decide
  simp only [irNested, wpSs, wpS, PD.E.isVar, wpI, wpE, wpEs, wpOs, wpRs, opd, hN, ht, hs]
  refine ⟨[], rfl, hz, ?_⟩
  simp only [List.map, List.length, List.replicate, List.cons_append, List.nil_append, SS.put, Rs.sl, List.set, Nat.reduceSub, Nat.reduceAdd]
  refine ⟨rfl, _, _, rfl, rfl, take_ok bg (by decide) (by decide) fun r r0 r1 => ?_⟩
  refine ⟨r, rfl, ⟨by omega, by omega⟩, ?_⟩
  refine forL_inv (fun i s => ∃ b ws o3 o4 o5, (∀ w ∈ ws, w ∈ ns) ∧ ws.length ≤ 38 + 2 * i ∧ i ≤ r.toNat ∧ s = ⟨[.val (.r (.ref p)), .val (.d (.list (stL ns))), lsl b ws, o3, o4, o5], g⟩) _ 0 _ ⟨true, [], .un, .un, .un, (fun _ h => nomatch h), Nat.zero_le _, Nat.zero_le _, rfl⟩ (fun _ _ _ => True.intro)
    (fun j y s hj ⟨b, ws, o3, o4, o5, e1, e2, e3, es⟩ k hk => ?_) (fun s ⟨b, ws, o3, o4, o5, e1, e2, e3, es⟩ => ?_)
  · subst es
    obtain ⟨jr, rfl⟩ := rngI_at hj
    refine ⟨_, rfl, rfl, rfl, _, _, rfl, rfl, p, _, bg, rfl, .inl ⟨_, rfl, by rw [List.length_map]; exact n0, by rw [List.length_map]; omega, fun d hd => ?_⟩⟩
    obtain ⟨w, hw, rfl⟩ := List.mem_map.mp hd
    refine ⟨rfl, _, _, rfl, rfl, take_ok bg (by decide) (by decide) fun q q0 q1 => ?_⟩
    refine ⟨True.intro, ?_⟩
    refine grow_wp (x0 := .val (.r (.ref p))) (x1 := .val (.d (.list (stL ns)))) (o3 := .val (.d (.int j))) (b := b) (ws := ws) (w := w) (k := q) (by omega) fun ws' s1 s2 => ?_
    have sub : ∀ v ∈ ws', v ∈ ns := fun v hv => by
      rcases s1 v hv with z | z
      · rw [z]; exact hw
      · exact e1 v z
    refine twice_wp (x0 := .val (.r (.ref p))) (x1 := .val (.d (.list (stL ns)))) (o3 := .val (.d (.int j))) (o4 := .val (.d (.str w))) (ws := ws') (k := q) (by omega) (fun hz => ?_) ?_
    · refine hk _ ⟨true, ws' ++ ws'.reverse, _, _, _, fun v hv => ?_, ?_, by omega, rfl⟩
      · rcases List.mem_append.mp hv with z | z
        · exact sub v z
        · exact sub v (List.mem_reverse.mp z)
      · rw [List.length_append, List.length_reverse]
        omega
    · exact hk _ ⟨false, ws', _, _, _, sub, by omega, by omega, rfl⟩
  · subst es
    have : (rngI 0 r.toNat).length = r.toNat := rngI_len _ _
    rw [this] at e2 e3
    refine ⟨by cases b <;> rfl, [.d (.list (stL ws))], by cases b <;> rfl, ?_⟩
    exact h ws e1 (by omega)
end
end PD
/-! PE5: names. -/
namespace PD
open PySem L2 PySem.Spec PySem.PyData
section
variable {K : PySem.W.Frag} {Φ : Tab (WK K)}
def namesFn : Fn (WK K) := fun xs g R _ => ∃ p m, Bagged g p ∧ xs = [.r (.ref p), .d (.int m)] ∧ 1 ≤ m ∧ m ≤ 8 ∧ ∀ ws, (ws.length : Int) = m → WsOk 64 ws → R (.f (.list (stL ws))) g
theorem namesFn_mono : Mono (namesFn (K := K)) := fun xs g R R' Ex Ex' ⟨p, m, b, e, h1, h2, h⟩ q _ => ⟨p, m, b, e, h1, h2, fun ws a c => q _ _ (h ws a c)⟩
def irNames : List Stm := [.asg (.tup (.cons (.nm 2) (.cons (.nm 3) (.cons (.nm 4) .nil)))) (.tup (.cons (.cst (.str "abcdefghijklmnopqrstuvwxyz")) (.cons (.call "_law_take" (.cons (.var 0) (.cons (.cst (.int 5)) .nil))) (.cons (.call "_law_take" (.cons (.var 0) (.cons (.cst (.int 26)) .nil))) .nil)))), .ife (.cmp .eq (.var 3) (.cst (.int 0))) [.asg (.nm 5) (.comp (.nm 6) (.rng1 (.var 1)) .nil (.idx (.var 2) (.bin .mod (.blt .int (.cons (.bin .add (.var 4) (.var 6)) .nil)) (.cst (.int 26)))) [6])] [.ife (.cmp .eq (.var 3) (.cst (.int 1))) [.asg (.nm 5) (.comp (.nm 6) (.rng1 (.var 1)) .nil (.bin .mul (.idx (.var 2) (.var 4)) (.bin .add (.var 6) (.cst (.int 1)))) [6])] [.ife (.cmp .eq (.var 3) (.cst (.int 2))) [.asg (.nm 7) (.mth .join (.cst (.str "")) (.cons (.comp (.nm 8) (.rng1 (.call "_law_take" (.cons (.var 0) (.cons (.cst (.int 12)) .nil)))) .nil (.call "_law_some" (.cons (.var 0) (.cons (.var 2) .nil))) [8]) .nil)), .asg (.nm 5) (.comp (.nm 6) (.rng1 (.var 1)) .nil (.bin .add (.var 7) (.idx (.var 2) (.bin .mod (.blt .int (.cons (.bin .add (.var 4) (.var 6)) .nil)) (.cst (.int 26))))) [6])] [.ife (.cmp .eq (.var 3) (.cst (.int 3))) [.asg (.nm 5) (.cut (.call "_law_mixed" (.cons (.var 0) (.cons (.lst (.cons (.cst (.str "service")) (.cons (.cst (.str "restarts")) (.cons (.cst (.str "hop")) (.cons (.cst (.str "pin")) (.cons (.cst (.str "edit")) (.cons (.cst (.str "from")) (.cons (.cst (.str "to")) (.cons (.cst (.str "stuck")) (.cons (.cst (.str "spare")) .nil)))))))))) .nil))) .none (.some (.var 1)))] [.asg (.nm 5) (.comp (.nm 6) (.rng1 (.var 1)) .nil (.bin .add (.idx (.var 2) (.bin .mod (.blt .int (.cons (.bin .add (.var 4) (.var 6)) .nil)) (.cst (.int 26)))) (.call "_law_some" (.cons (.var 0) (.cons (.lst (.cons (.cst (.str "")) (.cons (.cst (.str "z")) (.cons (.cst (.str "mail")) (.cons (.cut (.var 2) .none (.some (.cst (.int 11)))) .nil))))) .nil)))) [6])]]]], .ret (.call "_law_mixed" (.cons (.var 0) (.cons (.var 5) .nil)))]
abbrev abc : Str := "abcdefghijklmnopqrstuvwxyz"
theorem abc_len : abc.length = 26 := by decide +kernel
theorem abc_ok : ∀ c ∈ abc.cps.toList, c < 0x110000 := by decide +kernel
theorem abc_line : abc.length ≤ sizeLine := by rw [abc_len]; decide
theorem abc_at {i : Int} (h0 : 0 ≤ i) (h1 : i < 26) : ∃ c, atI abc.cps.toList i = some c ∧ TxOk 1 ⟨#[c]⟩ := by
  obtain ⟨c, e, m⟩ := atI_in (xs := abc.cps.toList) h0 (by rw [str_len, abc_len]; exact h1)
  exact ⟨c, e, txOk_one (abc_ok c m)⟩
theorem comp_str {turn : D → SS (WK K) → (Option D → SS (WK K) → Prop) → Prop} {gd : SS (WK K) → Prop} {Kf : List D → SS (WK K) → Prop} {SL : Sl → List Sl} {g : Bg} {m n : Nat} (hm : m ≤ 1000) (hg : ∀ o, gd ⟨SL o, g⟩)
    (ht : ∀ (j : Nat) o k, j < m → (∀ w o', TxOk n w → k (some (.str w)) ⟨SL o', g⟩) → turn (.int j) ⟨SL o, g⟩ k) (hk : ∀ ws o, ws.length = m → WsOk n ws → Kf (stL ws) ⟨SL o, g⟩) (o : Sl) : compL turn gd (rngI 0 m) [] ⟨SL o, g⟩ Kf := by
  refine compL_inv (fun i acc s => ∃ ws o, acc = stL ws ∧ ws.length = i ∧ i ≤ 1000 ∧ WsOk n ws ∧ s = ⟨SL o, g⟩) _ 0 [] _ ⟨[], o, rfl, rfl, Nat.zero_le _, (fun _ h => nomatch h), rfl⟩ (fun i acc s ⟨ws, o, e1, e2, e3, e4, e5⟩ => ?_) (fun j x acc s hx ⟨ws, o, e1, e2, e3, e4, e5⟩ k hy hz => ?_) (fun acc s ⟨ws, o, e1, e2, e3, e4, e5⟩ => ?_)
  · subst e5
    subst e1
    refine ⟨hg o, ?_⟩
    rw [List.length_map, e2]
    exact Nat.lt_of_le_of_lt e3 (by decide)
  · subst e5
    obtain ⟨hj, rfl⟩ := rngI_at hx
    refine ht j o k hj fun w o' hw => hy _ _ ⟨ws ++ [w], o', ?_, ?_, by omega, ?_, rfl⟩
    · rw [e1, stL_append]
      rfl
    · rw [List.length_append, e2]
      simp
    · intro v hv
      rcases List.mem_append.mp hv with z | z
      · exact e4 v z
      · rw [List.mem_singleton.mp z]
        exact hw
  · subst e5
    subst e1
    rw [rngI_len] at e2
    exact hk ws o (by omega) e4
theorem mod26 (i : Int) : 0 ≤ i % 26 ∧ i % 26 < 26 := ⟨Int.emod_nonneg _ (by decide), Int.emod_lt_of_pos _ (by decide)⟩
theorem wsOk_perm {n : Nat} {es : List D} {ws : List Str} (h : es.Perm (stL ws)) (ok : WsOk n ws) : ∃ vs, es = stL vs ∧ vs.length = ws.length ∧ WsOk n vs := by
  have hs : ∀ d ∈ es, ∃ w, d = .str w ∧ w ∈ ws := fun d hd => by
    have := h.mem_iff.mp hd
    obtain ⟨w, hw, e⟩ := List.mem_map.mp this
    exact ⟨w, e.symm, hw⟩
  have key : ∀ l : List D, (∀ d ∈ l, ∃ w, d = PyData.str w ∧ w ∈ ws) → ∃ vs, l = stL vs ∧ ∀ v ∈ vs, v ∈ ws := by
    intro l
    induction l with
    | nil => exact fun _ => ⟨[], rfl, fun _ h => nomatch h⟩
    | cons d l ih =>
      intro hl
      obtain ⟨w, rfl, hw⟩ := hl d List.mem_cons_self
      obtain ⟨vs, rfl, hv⟩ := ih fun d hd => hl d (List.mem_cons_of_mem _ hd)
      refine ⟨w :: vs, rfl, fun v hv' => ?_⟩
      rcases List.mem_cons.mp hv' with z | z
      · rw [z]; exact hw
      · exact hv v z
  obtain ⟨vs, rfl, hv⟩ := key es hs
  refine ⟨vs, rfl, ?_, fun v h => ok v (hv v h)⟩
  have := h.length_eq
  simpa using this
def nine : List Str := ["service", "restarts", "hop", "pin", "edit", "from", "to", "stuck", "spare"]
theorem nine_ok : WsOk 64 nine := fun w hw => by
  have h : ∀ w ∈ nine, strOk w = true ∧ w.length ≤ 64 := by decide +kernel
  exact ⟨(h w hw).1, (h w hw).2⟩
def abc11 : Str := ⟨(cutD abc.cps.toList Option.none (some 11)).toArray⟩
def four : List Str := ["", "z", "mail", abc11]
theorem four_ok {d : D} (hd : d ∈ stL four) : ∃ w, d = .str w ∧ TxOk 11 w := by
  have h : ∀ w ∈ four, strOk w = true ∧ w.length ≤ 11 := by decide +kernel
  obtain ⟨w, hw, rfl⟩ := List.mem_map.mp hd
  exact ⟨w, rfl, (h w hw).1, (h w hw).2⟩
theorem names_wp (ht : Φ "_law_take" = some takeFn) (hs : Φ "_law_some" = some someFn) (hm : Φ "_law_mixed" = some mixedFn) {N : List Str} (hN : N.length = 9) {xs : List SV} {g : Bg} {R : Rs → Bg → Prop} {Ex : Exn → Bg → Prop} (h : namesFn (K := K) xs g R Ex) : bodyFn Φ N 2 irNames xs g R Ex := by
  obtain ⟨p, m, bg, rfl, m0, m1, h⟩ := h
  refine ⟨rfl, ?_⟩
  have y3 : 3 ≤ sizeLine := by decide
  simp only [irNames, wpSs, wpS, PD.E.isVar, wpI, wpE, wpEs, wpOs, wpEo, wpIfs, opd, hN, ht, hs, hm, wpT]
  simp only [List.map, List.length, List.replicate, List.cons_append, List.nil_append, Nat.reduceSub, Nat.reduceAdd]
  refine ⟨rfl, _, _, rfl, rfl, take_ok bg (by decide) (by decide) fun kd k0 k1 => ?_⟩
  refine ⟨rfl, _, _, rfl, rfl, take_ok bg (by decide) (by decide) fun f f0 f1 => ?_⟩
  refine ⟨_, rfl, y3, _, rfl, ?_⟩
  -- what is found: so many names; then they are mixed
  have fin : ∀ (ws : List Str) (R' : Rs → Bg → Prop) (Ex' : Exn → Bg → Prop), (ws.length : Int) = m → WsOk 64 ws → (∀ vs, (vs.length : Int) = m → WsOk 64 vs → R' (.f (.list (stL vs))) g) → mixedFn (K := K) [.r (.ref p), .d (.list (stL ws))] g R' Ex' := fun ws R' Ex' hl ok hR => by
    refine ⟨p, _, _, bg, rfl, .inl rfl, ?_, fun es he => ?_⟩
    · rw [List.length_map]
      omega
    · obtain ⟨vs, rfl, hv, ok'⟩ := wsOk_perm he ok
      exact hR vs (by rw [hv]; exact hl) ok'
  have mb : -2 ^ 62 ≤ m ∧ m < 2 ^ 62 := ⟨by omega, by omega⟩
  have mt : (m.toNat : Int) = m := by omega
  refine ⟨rfl, _, _, rfl, rfl, eqW_of (b := kd == 0) True.intro rfl ?_⟩
  cases kd == 0 with
  | true =>
    refine ⟨_, true, rfl, rfl, ?_⟩
    rw [if_pos rfl]
    refine ⟨_, rfl, m, rfl, mb, ?_⟩
    refine comp_str (SL := fun o => [.val (.r (.ref p)), .val (.d (.int m)), .val (.d (.str abc)), .val (.d (.int kd)), .val (.d (.int f)), .un, o, .un, .un]) (g := g) (m := m.toNat) (n := 64) (by omega) (fun o i hi => nomatch hi) (fun j o k hj hw => ?_) (fun ws o hl ok => ?_) .un
    · refine ⟨_, rfl, ?_⟩
      rw [if_pos True.intro]
      obtain ⟨c, e, hc⟩ := abc_at (mod26 (f + j)).1 (mod26 (f + j)).2
      exact ⟨rfl, rfl, rfl, _, _, rfl, rfl, _, rfl, _, _, rfl, rfl, by decide, _, rfl, abc_line, c, e, _, rfl, hw _ _ (hc.mono (by decide))⟩
    · exact ⟨rfl, rfl, _, _, rfl, rfl, fin ws _ _ (by rw [hl]; exact mt) ok fun vs hv ok' => h vs hv ok'⟩
  | false =>
    refine ⟨_, false, rfl, rfl, ?_⟩
    rw [if_neg Bool.false_ne_true]
    refine ⟨rfl, _, _, rfl, rfl, eqW_of (b := kd == 1) True.intro rfl ?_⟩
    cases kd == 1 with
    | true =>
      refine ⟨_, true, rfl, rfl, ?_⟩
      rw [if_pos rfl]
      refine ⟨_, rfl, m, rfl, mb, ?_⟩
      refine comp_str (SL := fun o => [.val (.r (.ref p)), .val (.d (.int m)), .val (.d (.str abc)), .val (.d (.int kd)), .val (.d (.int f)), .un, o, .un, .un]) (g := g) (m := m.toNat) (n := 64) (by omega) (fun o i hi => nomatch hi) (fun j o k hj hw => ?_) (fun ws o hl ok => ?_) .un
      · refine ⟨_, rfl, ?_⟩
        rw [if_pos True.intro]
        obtain ⟨c, e, hc⟩ := abc_at f0 f1
        have lc : (⟨#[c]⟩ : Str).length = 1 := rfl
        refine ⟨rfl, _, rfl, _, rfl, abc_line, c, e, rfl, _, _, rfl, rfl, _, _, rfl, rfl, ⟨by omega, by omega, by rw [lc]; decide⟩, _, rfl, hw _ _ ((hc.times _).mono ?_)⟩
        have : ((j : Int) + 1).toNat = j + 1 := by omega
        rw [this]
        omega
      · exact ⟨rfl, rfl, _, _, rfl, rfl, fin ws _ _ (by rw [hl]; exact mt) ok fun vs hv ok' => h vs hv ok'⟩
    | false =>
      refine ⟨_, false, rfl, rfl, ?_⟩
      rw [if_neg Bool.false_ne_true]
      refine ⟨rfl, _, _, rfl, rfl, eqW_of (b := kd == 2) True.intro rfl ?_⟩
      cases kd == 2 with
      | true =>
        refine ⟨_, true, rfl, rfl, ?_⟩
        rw [if_pos rfl]
        refine ⟨⟨_, rfl, True.intro⟩, rfl, _, _, rfl, rfl, take_ok bg (by decide) (by decide) fun r r0 r1 => ?_⟩
        refine ⟨r, rfl, ⟨by omega, by omega⟩, ?_⟩
        refine comp_str (SL := fun o => [.val (.r (.ref p)), .val (.d (.int m)), .val (.d (.str abc)), .val (.d (.int kd)), .val (.d (.int f)), .un, .un, .un, o]) (g := g) (m := r.toNat) (n := 1) (by omega) (fun o i hi => nomatch hi) (fun j o k hj hw => ?_) (fun ys o hl ok => ?_) .un
        · refine ⟨_, rfl, ?_⟩
          rw [if_pos True.intro]
          refine ⟨rfl, rfl, _, _, rfl, rfl, p, _, bg, rfl, .inr ⟨_, rfl, by rw [abc_len]; decide, abc_line, fun c hc => ?_⟩⟩
          exact ⟨_, rfl, hw _ _ (txOk_one (abc_ok c hc))⟩
        · have so : strsOf (stL ys) = some ys := by
            clear hl ok
            induction ys with
            | nil => rfl
            | cons a l ih =>
              show (match strsOf (stL l) with | some xs => some (a :: xs) | Option.none => Option.none) = _
              rw [ih]
          have sm : (ys.map (·.length)).sum ≤ ys.length := by
            clear so hl
            induction ys with
            | nil => exact Nat.le_refl _
            | cons a l ih =>
              have := (ok a List.mem_cons_self).len
              have := ih fun v hv => ok v (List.mem_cons_of_mem _ hv)
              simp
              omega
          have jo := tx_join ok
          refine ⟨_, _, rfl, rfl, ys, so, ?_, ?_⟩
          · have : (("" : Str)).length = 0 := rfl
            rw [this]
            omega
          · refine ⟨_, rfl, m, rfl, mb, ?_⟩
            refine comp_str (SL := fun o => [.val (.r (.ref p)), .val (.d (.int m)), .val (.d (.str abc)), .val (.d (.int kd)), .val (.d (.int f)), .un, o, .val (.d (.str (Txt.join "" ys))), .un]) (g := g) (m := m.toNat) (n := 64) (by omega) (fun o i hi => nomatch hi) (fun j o k hj hw => ?_) (fun ws o hl ok => ?_) .un
            · refine ⟨_, rfl, ?_⟩
              rw [if_pos True.intro]
              obtain ⟨c, e, hc⟩ := abc_at (mod26 (f + j)).1 (mod26 (f + j)).2
              refine ⟨rfl, rfl, rfl, rfl, _, _, rfl, rfl, _, rfl, _, _, rfl, rfl, by decide, _, rfl, abc_line, c, e, _, _, rfl, rfl, ?_, _, rfl, hw _ _ ((jo.append hc).mono (by omega))⟩
              have := jo.len
              have l1 : (⟨#[c]⟩ : Str).length = 1 := rfl
              rw [l1]
              exact Nat.le_trans (show _ ≤ 100 by omega) (by decide)
            · exact ⟨rfl, rfl, _, _, rfl, rfl, fin ws _ _ (by rw [hl]; exact mt) ok fun vs hv ok' => h vs hv ok'⟩
      | false =>
        refine ⟨_, false, rfl, rfl, ?_⟩
        rw [if_neg Bool.false_ne_true]
        refine ⟨rfl, _, _, rfl, rfl, eqW_of (b := kd == 3) True.intro rfl ?_⟩
        cases kd == 3 with
        | true =>
          refine ⟨_, true, rfl, rfl, ?_⟩
          rw [if_pos rfl]
          refine ⟨rfl, _, rfl, show 9 ≤ sizeLine by decide, _, _, rfl, rfl, p, _, _, bg, rfl, .inl rfl, show 9 < 100000 by decide, fun es he => ?_⟩
          obtain ⟨vs, rfl, hv, ok⟩ := wsOk_perm (n := 64) (ws := nine) he nine_ok
          have h9 : nine.length = 9 := rfl
          have ct : ∀ Kk : Rs → Prop, Kk (.f (.list (stL (vs.take m.toNat)))) → cutW (.d (.list (stL vs))) Option.none (some m) Kk := fun Kk hk => by
            show Kk (.f (.list (cutD (stL vs) Option.none (some m))))
            rw [← mt, cut_to _ _ (by rw [List.length_map, hv, h9]; omega), ← List.map_take]
            exact hk
          refine ⟨_, rfl, m, rfl, _, rfl, ct _ ?_⟩
          refine ⟨rfl, rfl, _, _, rfl, rfl, fin (vs.take m.toNat) _ _ ?_ (fun w hw => ok w (List.take_subset _ _ hw)) fun vs hv ok' => h vs hv ok'⟩
          rw [List.length_take, hv, h9]
          omega
        | false =>
          refine ⟨_, false, rfl, rfl, ?_⟩
          rw [if_neg Bool.false_ne_true]
          refine ⟨_, rfl, m, rfl, mb, ?_⟩
          refine comp_str (SL := fun o => [.val (.r (.ref p)), .val (.d (.int m)), .val (.d (.str abc)), .val (.d (.int kd)), .val (.d (.int f)), .un, o, .un, .un]) (g := g) (m := m.toNat) (n := 64) (by omega) (fun o i hi => nomatch hi) (fun j o k hj hw => ?_) (fun ws o hl ok => ?_) .un
          · refine ⟨_, rfl, ?_⟩
            rw [if_pos True.intro]
            obtain ⟨c, e, hc⟩ := abc_at (mod26 (f + j)).1 (mod26 (f + j)).2
            refine ⟨rfl, rfl, rfl, _, _, rfl, rfl, _, rfl, _, _, rfl, rfl, by decide, _, rfl, abc_line, c, e, ?_⟩
            refine ⟨rfl, rfl, 11, rfl, _, rfl, abc_line, _, rfl, show 4 ≤ sizeLine by decide, _, _, rfl, rfl, p, _, bg, rfl, .inl ⟨_, rfl, show 0 < 4 by decide, show 4 < 1073741824 by decide, fun d hd => ?_⟩⟩
            obtain ⟨w, rfl, hw2⟩ := four_ok hd
            refine ⟨_, _, rfl, rfl, ?_, _, rfl, hw _ _ ((hc.append hw2).mono (by decide))⟩
            have := hw2.len
            have l1 : (⟨#[c]⟩ : Str).length = 1 := rfl
            rw [l1]
            exact Nat.le_trans (show _ ≤ 100 by omega) (by decide)
          · exact ⟨rfl, rfl, _, _, rfl, rfl, fin ws _ _ (by rw [hl]; exact mt) ok fun vs hv ok' => h vs hv ok'⟩
end
end PD
/-! PE6: the words' law. -/
namespace PD
open PySem L2 PySem.Spec PySem.PyData
section
variable {K : PySem.W.Frag} {Φ : Tab (WK K)}
theorem tup_pln {u : List Str} (h : WsOk 64 u) (l : u.length ≤ 200) : PlN 1 13000 (.tuple (stL u)) := (PlN.tuple (ws_pln h)).mono (Nat.le_refl _) (by rw [List.length_map]; omega)
theorem plain_list {ds : List D} (h : ∀ d ∈ ds, ∃ u, d = .tuple (stL u) ∧ WsOk 64 u ∧ u.length ≤ 200) (hl : ds.length ≤ 10) : Plain (.list ds) := by
  refine (PlN.list (dep := 1) (n := 13000) fun d hd => ?_).plain (by decide) ?_
  · obtain ⟨u, rfl, h1, h2⟩ := h d hd
    exact tup_pln h1 h2
  · have : ds.length * (13000 + 1) ≤ 10 * 13001 := Nat.mul_le_mul hl (Nat.le_refl _)
    exact Nat.le_trans this (by decide)
theorem red_ok {n : Nat} {u : List Str} (h : WsOk n u) : WsOk n (red u) := fun w hw => h w (red_mem hw)
theorem wsOk_append {n : Nat} {u v : List Str} (h1 : WsOk n u) (h2 : WsOk n v) : WsOk n (u ++ v) := fun w hw => by
  rcases List.mem_append.mp hw with h | h
  · exact h1 w h
  · exact h2 w h
theorem wsOk_rev {n : Nat} {u : List Str} (h1 : WsOk n u) : WsOk n u.reverse := fun w hw => h1 w (List.mem_reverse.mp hw)
theorem stL_rev (u : List Str) : (stL u).reverse = stL u.reverse := List.map_reverse.symm
def irT8 : List Stm := .ife (.not (.call "_law_alike" (.cons (.lst (.cons (.call "joined" (.cons (.call "joined" (.cons (.var 4) (.cons (.var 5) .nil))) (.cons (.var 6) .nil))) (.cons (.call "joined" (.cons (.var 4) (.cons (.call "joined" (.cons (.var 5) (.cons (.var 6) .nil))) .nil))) .nil))) (.cons (.lst (.cons (.var 8) (.cons (.var 8) .nil))) .nil)))) [.ret (.cst (.bool false))] [] :: []
def irT7 : List Stm := .asg (.nm 8) (.call "_law_struck" (.cons (.var 1) (.cons (.bin .add (.bin .add (.var 4) (.var 5)) (.var 6)) .nil))) :: irT8
def irT6 : List Stm := .ife (.not (.call "_law_alike" (.cons (.lst (.cons (.call "joined" (.cons (.var 4) (.cons (.call "inverse" (.cons (.var 4) .nil)) .nil))) (.cons (.call "joined" (.cons (.call "inverse" (.cons (.var 4) .nil)) (.cons (.var 4) .nil))) .nil))) (.cons (.lst (.cons (.tup .nil) (.cons (.tup .nil) .nil))) .nil)))) [.ret (.cst (.bool false))] [] :: irT7
def irT5 : List Stm := .ife (.not (.call "_law_alike" (.cons (.call "inverse" (.cons (.var 4) .nil)) (.cons (.rev (.var 4)) .nil)))) [.ret (.cst (.bool false))] [] :: irT6
def irT4 : List Stm := .ife (.not (.call "_law_alike" (.cons (.lst (.cons (.call "reduced" (.cons (.var 4) .nil)) (.cons (.call "reduced" (.cons (.idx (.var 7) (.cst (.int 0))) .nil)) (.cons (.call "reduced" (.cons (.bin .add (.var 4) (.var 5)) .nil)) .nil)))) (.cons (.lst (.cons (.idx (.var 7) (.cst (.int 0))) (.cons (.idx (.var 7) (.cst (.int 0))) (.cons (.idx (.var 7) (.cst (.int 1))) .nil)))) .nil)))) [.ret (.cst (.bool false))] [] :: irT5
def irT3 : List Stm := .ife (.not (.call "_law_alike" (.cons (.lst (.cons (.call "reduced" (.cons (.var 4) .nil)) (.cons (.call "joined" (.cons (.var 4) (.cons (.var 5) .nil))) .nil))) (.cons (.var 7) .nil)))) [.ret (.cst (.bool false))] [] :: irT4
def irT2 : List Stm := .asg (.nm 7) (.lst (.cons (.call "_law_struck" (.cons (.var 1) (.cons (.var 4) .nil))) (.cons (.call "_law_struck" (.cons (.var 1) (.cons (.bin .add (.var 4) (.var 5)) .nil))) .nil))) :: irT3
def irLaw9 : List Stm := [.asg (.nm 1) (.call "_law_bag" (.cons (.var 0) .nil)), .forr (.nm 2) (.rng1 (.cst (.int 4))) (.asg (.nm 3) (.call "_law_names" (.cons (.var 1) (.cons (.call "_law_some" (.cons (.var 1) (.cons (.lst (.cons (.cst (.int 2)) (.cons (.cst (.int 3)) (.cons (.cst (.int 1)) (.cons (.cst (.int 8)) .nil))))) .nil))) .nil))) :: .par [4, 5, 6] (.cons (.call "_law_nested" (.cons (.var 1) (.cons (.var 3) .nil))) (.cons (.call "_law_nested" (.cons (.var 1) (.cons (.var 3) .nil))) (.cons (.call "_law_nested" (.cons (.var 1) (.cons (.var 3) .nil))) .nil))) :: irT2), .ret (.cst (.bool true))]
section
variable {x0 x1 x2 x3 x7 x8 : Sl} {p : Addr} {f s t : List Str} {g : Bg} {P : Po (WK K)}
/-- the state of a turn -/
def stT (x0 x2 x3 : Sl) (p : Addr) (f s t : List Str) (x7 x8 : Sl) (g : Bg) : SS (WK K) := ⟨[x0, .val (.r (.ref p)), x2, x3, .val (.d (.tuple (stL f))), .val (.d (.tuple (stL s))), .val (.d (.tuple (stL t))), x7, x8], g⟩
def du (f s : List Str) : Sl := .own (.list [.tuple (stL (red f)), .tuple (stL (red (f ++ s)))])
structure Okw (f s t : List Str) : Prop where
  fo : WsOk 64 f
  so : WsOk 64 s
  to : WsOk 64 t
  fl : f.length ≤ 60
  sl : s.length ≤ 60
  tl : t.length ≤ 60
theorem Okw.two (o : Okw f s t) : (stL f).length + (stL s).length ≤ sizeLine := by
  have := o.fl
  have := o.sl
  rw [List.length_map, List.length_map]
  exact Nat.le_trans (show _ ≤ 200 by omega) (by decide)
theorem Okw.three (o : Okw f s t) : (stL f ++ stL s).length + (stL t).length ≤ sizeLine := by
  have := o.fl
  have := o.sl
  have := o.tl
  rw [List.length_append, List.length_map, List.length_map, List.length_map]
  exact Nat.le_trans (show _ ≤ 200 by omega) (by decide)
theorem t2_wp (hst : Φ "_law_struck" = some struckFn) (b : Bagged g p) (o : Okw f s t) (h : wpSs Φ irT3 (stT x0 x2 x3 p f s t (du f s) x8 g) P) : wpSs Φ irT2 (stT x0 x2 x3 p f s t x7 x8 g) P := by
  have h1 := o.fl
  have h2 := o.sl
  have y2 : 2 ≤ sizeLine := by decide
  simp only [irT2, wpSs, wpS, PD.E.isVar, wpE, wpEs, wpOs, opd, hst]
  refine ⟨rfl, rfl, _, _, rfl, rfl, p, f, b, rfl, by omega, o.fo, ?_⟩
  refine ⟨rfl, rfl, rfl, _, _, rfl, rfl, o.two, _, _, rfl, rfl, p, f ++ s, b, by rw [stL_append]; rfl, by rw [List.length_append]; omega, wsOk_append o.fo o.so, ?_⟩
  exact ⟨_, rfl, y2, h⟩
theorem t3_wp (ha : Φ "_law_alike" = some alikeFn) (hr : Φ "reduced" = some reducedFn) (hj : Φ "joined" = some joinedFn) (o : Okw f s t) (h : wpSs Φ irT4 (stT x0 x2 x3 p f s t (du f s) x8 g) P) : wpSs Φ irT3 (stT x0 x2 x3 p f s t (du f s) x8 g) P := by
  have h1 := o.fl
  have h2 := o.sl
  have y2 : 2 ≤ sizeLine := by decide
  simp only [irT3, wpSs, wpS, PD.E.isVar, wpE, wpEs, wpOs, opd, ha, hr, hj, wpT]
  refine ⟨rfl, _, _, rfl, rfl, f, rfl, by omega, o.fo, ?_⟩
  refine ⟨rfl, rfl, _, _, rfl, rfl, f, s, rfl, by omega, wsOk_append o.fo o.so, ?_⟩
  refine ⟨_, rfl, y2, rfl, _, _, rfl, rfl, .list [.tuple (stL (red f)), .tuple (stL (red (f ++ s)))], rfl, plain_list (fun d hd => ?_) (show 2 ≤ 10 by decide), ?_⟩
  · simp at hd
    rcases hd with rfl | rfl
    · exact ⟨_, rfl, red_ok o.fo, Nat.le_trans (red_len _) (by omega)⟩
    · exact ⟨_, rfl, red_ok (wsOk_append o.fo o.so), Nat.le_trans (red_len _) (by rw [List.length_append]; omega)⟩
  · exact ⟨_, true, rfl, rfl, _, false, rfl, rfl, h⟩
theorem t4_wp (ha : Φ "_law_alike" = some alikeFn) (hr : Φ "reduced" = some reducedFn) (o : Okw f s t) (h : wpSs Φ irT5 (stT x0 x2 x3 p f s t (du f s) x8 g) P) : wpSs Φ irT4 (stT x0 x2 x3 p f s t (du f s) x8 g) P := by
  have h1 := o.fl
  have h2 := o.sl
  have y3 : 3 ≤ sizeLine := by decide
  have rl := red_len f
  simp only [irT4, wpSs, wpS, PD.E.isVar, wpE, wpEs, wpOs, opd, ha, hr, wpT]
  refine ⟨rfl, _, _, rfl, rfl, f, rfl, by omega, o.fo, ?_⟩
  refine ⟨rfl, _, rfl, .tuple (stL (red f)), rfl, _, _, rfl, rfl, red f, rfl, by omega, red_ok o.fo, ?_⟩
  refine ⟨rfl, rfl, _, _, rfl, rfl, o.two, _, _, rfl, rfl, f ++ s, by rw [stL_append]; rfl, by rw [List.length_append]; omega, wsOk_append o.fo o.so, ?_⟩
  refine ⟨_, rfl, y3, ?_⟩
  refine ⟨rfl, _, rfl, .tuple (stL (red f)), rfl, rfl, _, rfl, .tuple (stL (red f)), rfl, rfl, _, rfl, .tuple (stL (red (f ++ s))), rfl, _, rfl, y3, ?_⟩
  refine ⟨_, _, rfl, rfl, .list [.tuple (stL (red f)), .tuple (stL (red f)), .tuple (stL (red (f ++ s)))], by rw [red_red]; rfl, plain_list (fun d hd => ?_) (show 3 ≤ 10 by decide), ?_⟩
  · simp at hd
    rcases hd with rfl | rfl
    · exact ⟨_, rfl, red_ok o.fo, Nat.le_trans (red_len _) (by omega)⟩
    · exact ⟨_, rfl, red_ok (wsOk_append o.fo o.so), Nat.le_trans (red_len _) (by rw [List.length_append]; omega)⟩
  · exact ⟨_, true, rfl, rfl, _, false, rfl, rfl, h⟩
theorem t5_wp (ha : Φ "_law_alike" = some alikeFn) (hi : Φ "inverse" = some inverseFn) (o : Okw f s t) (h : wpSs Φ irT6 (stT x0 x2 x3 p f s t (du f s) x8 g) P) : wpSs Φ irT5 (stT x0 x2 x3 p f s t (du f s) x8 g) P := by
  have h1 := o.fl
  simp only [irT5, wpSs, wpS, PD.E.isVar, wpE, wpEs, wpOs, opd, ha, hi, wpT]
  refine ⟨rfl, _, _, rfl, rfl, stL f, rfl, ?_⟩
  refine ⟨rfl, _, rfl, _, _, rfl, rfl, .tuple (stL f).reverse, rfl, ?_, ?_⟩
  · rw [stL_rev]
    exact (tup_pln (wsOk_rev o.fo) (by rw [List.length_reverse]; omega)).plain (by decide) (by decide)
  · exact ⟨_, true, rfl, rfl, _, false, rfl, rfl, h⟩
theorem t6_wp (ha : Φ "_law_alike" = some alikeFn) (hi : Φ "inverse" = some inverseFn) (hj : Φ "joined" = some joinedFn) (o : Okw f s t) (h : wpSs Φ irT7 (stT x0 x2 x3 p f s t (du f s) x8 g) P) : wpSs Φ irT6 (stT x0 x2 x3 p f s t (du f s) x8 g) P := by
  have h1 := o.fl
  have y2 : 2 ≤ sizeLine := by decide
  have y0 : 0 ≤ sizeLine := Nat.zero_le _
  have rl : f.reverse.length = f.length := List.length_reverse
  simp only [irT6, wpSs, wpS, PD.E.isVar, wpE, wpEs, wpOs, opd, ha, hi, hj, wpT]
  refine ⟨rfl, rfl, _, _, rfl, rfl, stL f, rfl, ?_⟩
  refine ⟨_, _, rfl, rfl, f, f.reverse, by rw [← stL_rev]; rfl, by omega, wsOk_append o.fo (wsOk_rev o.fo), ?_⟩
  refine ⟨rfl, _, _, rfl, rfl, stL f, rfl, ?_⟩
  refine ⟨rfl, _, _, rfl, rfl, f.reverse, f, by rw [← stL_rev]; rfl, by omega, wsOk_append (wsOk_rev o.fo) o.fo, ?_⟩
  refine ⟨_, rfl, y2, [], rfl, y0, [], rfl, y0, _, rfl, y2, ?_⟩
  refine ⟨_, _, rfl, rfl, .list [.tuple [], .tuple []], by rw [red_rev, red_rev2]; rfl, plain_list (fun d hd => ?_) (show 2 ≤ 10 by decide), ?_⟩
  · simp at hd
    subst hd
    exact ⟨[], rfl, (fun _ h => nomatch h), Nat.zero_le _⟩
  · exact ⟨_, true, rfl, rfl, _, false, rfl, rfl, h⟩
theorem t7_wp (hst : Φ "_law_struck" = some struckFn) (b : Bagged g p) (o : Okw f s t) (h : wpSs Φ irT8 (stT x0 x2 x3 p f s t (du f s) (.val (.d (.tuple (stL (red (f ++ s ++ t)))))) g) P) : wpSs Φ irT7 (stT x0 x2 x3 p f s t (du f s) x8 g) P := by
  have h1 := o.fl
  have h2 := o.sl
  have h3 := o.tl
  simp only [irT7, wpSs, wpS, PD.E.isVar, wpE, wpEs, wpOs, opd, hst]
  refine ⟨rfl, rfl, rfl, _, _, rfl, rfl, o.two, rfl, _, _, rfl, rfl, o.three, _, _, rfl, rfl, p, f ++ s ++ t, b, by rw [stL_append, stL_append]; rfl, by rw [List.length_append, List.length_append]; omega, wsOk_append (wsOk_append o.fo o.so) o.to, ?_⟩
  exact h
theorem t8_wp (ha : Φ "_law_alike" = some alikeFn) (hj : Φ "joined" = some joinedFn) (o : Okw f s t) (h : P.nx (stT x0 x2 x3 p f s t (du f s) (.val (.d (.tuple (stL (red (f ++ s ++ t)))))) g)) : wpSs Φ irT8 (stT x0 x2 x3 p f s t (du f s) (.val (.d (.tuple (stL (red (f ++ s ++ t)))))) g) P := by
  have h1 := o.fl
  have h2 := o.sl
  have h3 := o.tl
  have r1 := red_len (f ++ s)
  have r2 := red_len (s ++ t)
  rw [List.length_append] at r1 r2
  have y2 : 2 ≤ sizeLine := by decide
  have ok3 := wsOk_append (wsOk_append o.fo o.so) o.to
  simp only [irT8, wpSs, wpS, PD.E.isVar, wpE, wpEs, wpOs, opd, ha, hj, wpT]
  refine ⟨rfl, rfl, _, _, rfl, rfl, f, s, rfl, by omega, wsOk_append o.fo o.so, ?_⟩
  refine ⟨rfl, _, _, rfl, rfl, red (f ++ s), t, rfl, by omega, wsOk_append (red_ok (wsOk_append o.fo o.so)) o.to, ?_⟩
  refine ⟨rfl, rfl, rfl, _, _, rfl, rfl, s, t, rfl, by omega, wsOk_append o.so o.to, ?_⟩
  refine ⟨_, _, rfl, rfl, f, red (s ++ t), rfl, by omega, wsOk_append o.fo (red_ok (wsOk_append o.so o.to)), ?_⟩
  refine ⟨_, rfl, y2, ?_⟩
  refine ⟨_, rfl, _, rfl, _, rfl, y2, ?_⟩
  refine ⟨_, _, rfl, rfl, .list [.tuple (stL (red (f ++ s ++ t))), .tuple (stL (red (f ++ s ++ t)))], by rw [red_l, red_r, ← List.append_assoc]; rfl, plain_list (fun d hd => ?_) (show 2 ≤ 10 by decide), ?_⟩
  · simp at hd
    subst hd
    refine ⟨_, by rw [List.append_assoc], red_ok ok3, Nat.le_trans (red_len _) ?_⟩
    rw [List.length_append, List.length_append]
    omega
  · exact ⟨_, true, rfl, rfl, _, false, rfl, rfl, h⟩
end
theorem law9_wp (hb : Φ "_law_bag" = some bagFn) (hs : Φ "_law_some" = some someFn) (hn : Φ "_law_names" = some namesFn) (hne : Φ "_law_nested" = some nestedFn) (hst : Φ "_law_struck" = some struckFn) (ha : Φ "_law_alike" = some alikeFn)
    (hr : Φ "reduced" = some reducedFn) (hj : Φ "joined" = some joinedFn) (hi : Φ "inverse" = some inverseFn) {N : List Str} (hN : N.length = 9) {xs : List SV} {g : Bg} {R : Rs → Bg → Prop} {Ex : Exn → Bg → Prop} (h : lawFn (K := K) xs g R Ex) : bodyFn Φ N 1 irLaw9 xs g R Ex := by
  obtain ⟨rfl, h0, h1, h⟩ := h
  refine ⟨rfl, ?_⟩
  simp only [irLaw9, wpSs, wpS, PD.E.isVar, wpI, wpE, wpEs, wpOs, wpRs, opd, hN, hb, hs, hn, hne]
  simp only [List.map, List.length, List.replicate, List.cons_append, List.nil_append, Nat.reduceSub, Nat.reduceAdd]
  refine ⟨rfl, _, _, rfl, rfl, rfl, h0, h1, fun p q => ?_⟩
  have bg : Bagged ⟨g.a, g.ns, g.fz, some (p, q)⟩ p := ⟨q, rfl⟩
  refine ⟨4, rfl, ⟨by decide, by decide⟩, ?_⟩
  refine forL_inv (W := WK K) (fun i s => ∃ o2 o3 o4 o5 o6 o7 o8, s = ⟨[.val (.r (.ref g.a)), .val (.r (.ref p)), o2, o3, o4, o5, o6, o7, o8], (⟨g.a, g.ns, g.fz, some (p, q)⟩ : Bg)⟩) _ 0 _ ⟨_, _, _, _, _, _, _, rfl⟩ (fun _ _ _ => True.intro)
    (fun j y s _ ⟨o2, o3, o4, o5, o6, o7, o8, es⟩ k hk => ?_) (fun s ⟨o2, o3, o4, o5, o6, o7, o8, es⟩ => ?_)
  · subst es
    refine ⟨_, rfl, rfl, rfl, _, rfl, show 4 ≤ sizeLine by decide, _, _, rfl, rfl, p, _, bg, rfl, .inl ⟨_, rfl, show 0 < 4 by decide, show 4 < 1073741824 by decide, fun d hd => ?_⟩⟩
    obtain ⟨z, rfl, z0, z1⟩ : ∃ z, d = .int z ∧ 1 ≤ z ∧ z ≤ 8 := by
      simp at hd
      rcases hd with rfl | rfl | rfl | rfl <;> exact ⟨_, rfl, by decide, by decide⟩
    refine ⟨_, _, rfl, rfl, p, z, bg, rfl, z0, z1, fun ns nl nok => ?_⟩
    have n0 : 0 < ns.length := by omega
    have n1 : ns.length < 1000 := by omega
    have sub : ∀ {u : List Str}, (∀ w ∈ u, w ∈ ns) → WsOk 64 u := fun hu w hw => nok w (hu w hw)
    refine ⟨rfl, rfl, _, _, rfl, rfl, p, ns, bg, rfl, n0, n1, fun f hf fl => ?_⟩
    refine ⟨rfl, rfl, _, _, rfl, rfl, p, ns, bg, rfl, n0, n1, fun s hs' sl => ?_⟩
    refine ⟨rfl, rfl, _, _, rfl, rfl, p, ns, bg, rfl, n0, n1, fun t ht tl => ?_⟩
    refine ⟨True.intro, ?_⟩
    have o : Okw f s t := ⟨sub hf, sub hs', sub ht, fl, sl, tl⟩
    exact t2_wp (x0 := .val (.r (.ref g.a))) (x2 := .val (.d y)) (x3 := .val (.d (.list (stL ns)))) (x7 := o7) (x8 := o8) (g := ⟨g.a, g.ns, g.fz, some (p, q)⟩) hst bg o (t3_wp ha hr hj o (t4_wp ha hr o (t5_wp ha hi o (t6_wp ha hi hj o (t7_wp hst bg o (t8_wp ha hj o (hk _ ⟨_, _, _, _, _, _, _, rfl⟩)))))))
  · subst es
    exact h _
end
end PD
namespace K9
open PySem L2 PD
def top (i : Nat) : Stmt := PySem.Challenge.pw_sparehop_k09_words_reduced.main.body.getD i (.Pass ⟨0, 0, 0, 0⟩)
section
variable {K : PySem.W.Frag}
def T0 : Tab (WK K) := fun _ => none
def T1 : Tab (WK K) := PD.ext T0 "reduced" reducedFn
def T2 : Tab (WK K) := PD.ext T1 "joined" joinedFn
def T3 : Tab (WK K) := PD.ext T2 "inverse" inverseFn
def T4 : Tab (WK K) := PD.ext T3 "_law_bag" bagFn
def T5 : Tab (WK K) := PD.ext T4 "_law_take" takeFn
def T6 : Tab (WK K) := PD.ext T5 "_law_some" someFn
def T7 : Tab (WK K) := PD.ext T6 "_law_mixed" mixedFn
def T8 : Tab (WK K) := PD.ext T7 "_law_alike" alikeFn
def T9 : Tab (WK K) := PD.ext T8 "_law_names" namesFn
def T10 : Tab (WK K) := PD.ext T9 "_law_struck" struckFn
def T11 : Tab (WK K) := PD.ext T10 "_law_nested" nestedFn
end
def N1 : List Str := ["word", "found", "name"]
theorem sc1 : FnScope N1 ["word"] (defScope (top 1)) := ⟨rfl, rfl, rfl, by decide +kernel, rfl, by decide +kernel, by decide +kernel⟩
theorem ok1 {K : PySem.W.Frag} : cSs ⟨N1, fun _ => none, fun x => ((T0 (K := K)) x).isSome⟩ 40 (defScope (top 1)) 60 (defBody (top 1)) = some irReduced := by rfl
def N2 : List Str := ["first", "second"]
theorem sc2 : FnScope N2 ["first", "second"] (defScope (top 2)) := ⟨rfl, rfl, rfl, by decide +kernel, rfl, by decide +kernel, by decide +kernel⟩
theorem ok2 {K : PySem.W.Frag} : cSs ⟨N2, fun _ => none, fun x => ((T1 (K := K)) x).isSome⟩ 40 (defScope (top 2)) 60 (defBody (top 2)) = some irJoined := by rfl
def N3 : List Str := ["word"]
theorem sc3 : FnScope N3 ["word"] (defScope (top 3)) := ⟨rfl, rfl, rfl, by decide +kernel, rfl, by decide +kernel, by decide +kernel⟩
theorem ok3 {K : PySem.W.Frag} : cSs ⟨N3, fun _ => none, fun x => ((T2 (K := K)) x).isSome⟩ 40 (defScope (top 3)) 60 (defBody (top 3)) = some irInverse := by rfl
theorem sc5 : FnScope ["_law_script", "_law_cell"] ["_law_script"] (defScope (top 5)) := ⟨rfl, rfl, rfl, by decide +kernel, rfl, by decide +kernel, by decide +kernel⟩
theorem tx5 : BagTxt ⟨["_law_script", "_law_cell"], fun _ => none, fun _ => false⟩ (defScope (top 5)) "_law_script" "_law_cell" (defBody (top 5)) := ⟨_, _, _, _, _, _, _, _, _, _, _, _, _, _, _, _, _, rfl, ⟨rfl, rfl, rfl, rfl, rfl⟩, rfl, rfl, rfl, rfl⟩
theorem sc6 : FnScope (N7 "_law_bag_here" "_law_many" "_law_cell" "_law_stirred" "_law_value" "_law_begin" "_law_second") ["_law_bag_here", "_law_many"] (defScope (top 6)) := ⟨rfl, rfl, rfl, by decide +kernel, rfl, by decide +kernel, by decide +kernel⟩
theorem tx6 : TakeTxt ⟨N7 "_law_bag_here" "_law_many" "_law_cell" "_law_stirred" "_law_value" "_law_begin" "_law_second", fun _ => none, fun _ => false⟩ (defScope (top 6)) (defBody (top 6)) := ⟨_, _, _, _, _, _, _, _, _, _, _, _, _, _, _, _, _, _, _, _, _, _, _, _, _, _, _, _, _, _, _, _, _, _, _, _, _, _, _, _, _, _, _, _, _, _, _, _, _, _, _, _, _, _, _, _, rfl, ⟨⟨rfl, rfl, rfl, rfl, rfl⟩, ⟨rfl, rfl, rfl, rfl, rfl⟩, ⟨rfl, rfl, rfl, rfl, rfl⟩, ⟨rfl, rfl, rfl, rfl, rfl⟩, ⟨rfl, rfl, rfl, rfl, rfl⟩, ⟨rfl, rfl, rfl, rfl, rfl⟩⟩, ⟨rfl, rfl⟩, ⟨rfl, rfl⟩, ⟨rfl, rfl⟩, ⟨rfl, rfl⟩, ⟨rfl, rfl⟩, ⟨rfl, rfl⟩, ⟨rfl, rfl⟩, ⟨rfl, rfl⟩, ⟨rfl, rfl⟩, ⟨rfl, rfl⟩, rfl⟩
def N7 : List Str := ["_law_bag_here", "_law_things"]
theorem sc7 : FnScope N7 ["_law_bag_here", "_law_things"] (defScope (top 7)) := ⟨rfl, rfl, rfl, by decide +kernel, rfl, by decide +kernel, by decide +kernel⟩
theorem ok7 {K : PySem.W.Frag} : cSs ⟨N7, fun _ => none, fun x => ((T5 (K := K)) x).isSome⟩ 40 (defScope (top 7)) 60 (defBody (top 7)) = some irSome := by rfl
def N8 : List Str := ["_law_bag_here", "_law_things", "_law_found", "_law_thing"]
theorem sc8 : FnScope N8 ["_law_bag_here", "_law_things"] (defScope (top 8)) := ⟨rfl, rfl, rfl, by decide +kernel, rfl, by decide +kernel, by decide +kernel⟩
theorem ok8 {K : PySem.W.Frag} : cSs ⟨N8, fun _ => none, fun x => ((T6 (K := K)) x).isSome⟩ 40 (defScope (top 8)) 60 (defBody (top 8)) = some irMixed := by rfl
def N9 : List Str := ["_law_found", "_law_due"]
theorem sc9 : FnScope N9 ["_law_found", "_law_due"] (defScope (top 9)) := ⟨rfl, rfl, rfl, by decide +kernel, rfl, by decide +kernel, by decide +kernel⟩
theorem ok9 {K : PySem.W.Frag} : cSs ⟨N9, fun _ => none, fun x => ((T7 (K := K)) x).isSome⟩ 40 (defScope (top 9)) 60 (defBody (top 9)) = some irAlike := by rfl
def N10 : List Str := ["_law_bag_here", "_law_many", "_law_letters", "_law_kind", "_law_first", "_law_found", "_law_at", "_law_stem", "_law_turn"]
theorem sc10 : FnScope N10 ["_law_bag_here", "_law_many"] (defScope (top 10)) := ⟨rfl, rfl, rfl, by decide +kernel, rfl, by decide +kernel, by decide +kernel⟩
theorem ok10 {K : PySem.W.Frag} : cSs ⟨N10, fun _ => none, fun x => ((T8 (K := K)) x).isSome⟩ 40 (defScope (top 10)) 60 (defBody (top 10)) = some irNames := by rfl
def N11 : List Str := ["_law_bag_here", "_law_word", "_law_left", "_law_turn", "_law_some_here", "_law_at"]
theorem sc11 : FnScope N11 ["_law_bag_here", "_law_word"] (defScope (top 11)) := ⟨rfl, rfl, rfl, by decide +kernel, rfl, by decide +kernel, by decide +kernel⟩
theorem ok11 {K : PySem.W.Frag} : cSs ⟨N11, fun _ => none, fun x => ((T9 (K := K)) x).isSome⟩ 40 (defScope (top 11)) 60 (defBody (top 11)) = some irStruck := by rfl
def N12 : List Str := ["_law_bag_here", "_law_names_here", "_law_word", "_law_turn", "_law_one", "_law_kind"]
theorem sc12 : FnScope N12 ["_law_bag_here", "_law_names_here"] (defScope (top 12)) := ⟨rfl, rfl, rfl, by decide +kernel, rfl, by decide +kernel, by decide +kernel⟩
theorem ok12 {K : PySem.W.Frag} : cSs ⟨N12, fun _ => none, fun x => ((T10 (K := K)) x).isSome⟩ 40 (defScope (top 12)) 60 (defBody (top 12)) = some irNested := by rfl
def N13 : List Str := ["_law_script", "_law_bag_here", "_law_turn", "_law_names_here", "_law_first", "_law_second", "_law_third", "_law_due", "_law_whole"]
theorem sc13 : FnScope N13 ["_law_script"] (defScope (top 13)) := ⟨rfl, rfl, rfl, by decide +kernel, rfl, by decide +kernel, by decide +kernel⟩
theorem ok13 {K : PySem.W.Frag} : cSs ⟨N13, fun _ => none, fun x => ((T11 (K := K)) x).isSome⟩ 40 (defScope (top 13)) 60 (defBody (top 13)) = some irLaw9 := by rfl
theorem joins {l : PySem.W.OpenLaw} {w : World} {K : PySem.W.Frag} {h : Heap} {mg : Str → Option Value} (X : K.In h) (G : h.Ns mainGlobals mg) {fa f1 f2 f3 f5 f6 f7 f8 f9 f10 f11 f12 f13 : Addr} (isfa : mg "law" = some (.ref fa))
    {o1 kv1 dc1 pm1 cd1 ct1 : Value} {od1 an1 : Option Addr} {sl1 : Array (Option Value)} (a1 : PySem.W.nsIn K mainGlobals "reduced" = some (some (.ref f1)))
    (l1 : K.lookup f1 = some ⟨o1, od1, .func (PySem.W.fnOf "reduced" "reduced" (defArgs (top 1)) (defBody (top 1)) (defScope (top 1)) .none kv1 dc1 pm1 an1 cd1 ct1), sl1⟩) (c1 : PySem.W.codeIn K cd1 "reduced" = true) (k1 : PySem.W.keepIn K (.ref f1) = true)
    {o2 kv2 dc2 pm2 cd2 ct2 : Value} {od2 an2 : Option Addr} {sl2 : Array (Option Value)} (a2 : PySem.W.nsIn K mainGlobals "joined" = some (some (.ref f2)))
    (l2 : K.lookup f2 = some ⟨o2, od2, .func (PySem.W.fnOf "joined" "joined" (defArgs (top 2)) (defBody (top 2)) (defScope (top 2)) .none kv2 dc2 pm2 an2 cd2 ct2), sl2⟩) (c2 : PySem.W.codeIn K cd2 "joined" = true) (k2 : PySem.W.keepIn K (.ref f2) = true)
    {o3 kv3 dc3 pm3 cd3 ct3 : Value} {od3 an3 : Option Addr} {sl3 : Array (Option Value)} (a3 : PySem.W.nsIn K mainGlobals "inverse" = some (some (.ref f3)))
    (l3 : K.lookup f3 = some ⟨o3, od3, .func (PySem.W.fnOf "inverse" "inverse" (defArgs (top 3)) (defBody (top 3)) (defScope (top 3)) .none kv3 dc3 pm3 an3 cd3 ct3), sl3⟩) (c3 : PySem.W.codeIn K cd3 "inverse" = true) (k3 : PySem.W.keepIn K (.ref f3) = true)
    {o5 kv5 dc5 pm5 cd5 ct5 : Value} {od5 an5 : Option Addr} {sl5 : Array (Option Value)} (a5 : PySem.W.nsIn K mainGlobals "_law_bag" = some (some (.ref f5)))
    (l5 : K.lookup f5 = some ⟨o5, od5, .func (PySem.W.fnOf "_law_bag" "_law_bag" (defArgs (top 5)) (defBody (top 5)) (defScope (top 5)) .none kv5 dc5 pm5 an5 cd5 ct5), sl5⟩) (c5 : PySem.W.codeIn K cd5 "_law_bag" = true) (k5 : PySem.W.keepIn K (.ref f5) = true)
    {o6 kv6 dc6 pm6 cd6 ct6 : Value} {od6 an6 : Option Addr} {sl6 : Array (Option Value)} (a6 : PySem.W.nsIn K mainGlobals "_law_take" = some (some (.ref f6)))
    (l6 : K.lookup f6 = some ⟨o6, od6, .func (PySem.W.fnOf "_law_take" "_law_take" (defArgs (top 6)) (defBody (top 6)) (defScope (top 6)) .none kv6 dc6 pm6 an6 cd6 ct6), sl6⟩) (c6 : PySem.W.codeIn K cd6 "_law_take" = true) (k6 : PySem.W.keepIn K (.ref f6) = true)
    {o7 kv7 dc7 pm7 cd7 ct7 : Value} {od7 an7 : Option Addr} {sl7 : Array (Option Value)} (a7 : PySem.W.nsIn K mainGlobals "_law_some" = some (some (.ref f7)))
    (l7 : K.lookup f7 = some ⟨o7, od7, .func (PySem.W.fnOf "_law_some" "_law_some" (defArgs (top 7)) (defBody (top 7)) (defScope (top 7)) .none kv7 dc7 pm7 an7 cd7 ct7), sl7⟩) (c7 : PySem.W.codeIn K cd7 "_law_some" = true) (k7 : PySem.W.keepIn K (.ref f7) = true)
    {o8 kv8 dc8 pm8 cd8 ct8 : Value} {od8 an8 : Option Addr} {sl8 : Array (Option Value)} (a8 : PySem.W.nsIn K mainGlobals "_law_mixed" = some (some (.ref f8)))
    (l8 : K.lookup f8 = some ⟨o8, od8, .func (PySem.W.fnOf "_law_mixed" "_law_mixed" (defArgs (top 8)) (defBody (top 8)) (defScope (top 8)) .none kv8 dc8 pm8 an8 cd8 ct8), sl8⟩) (c8 : PySem.W.codeIn K cd8 "_law_mixed" = true) (k8 : PySem.W.keepIn K (.ref f8) = true)
    {o9 kv9 dc9 pm9 cd9 ct9 : Value} {od9 an9 : Option Addr} {sl9 : Array (Option Value)} (a9 : PySem.W.nsIn K mainGlobals "_law_alike" = some (some (.ref f9)))
    (l9 : K.lookup f9 = some ⟨o9, od9, .func (PySem.W.fnOf "_law_alike" "_law_alike" (defArgs (top 9)) (defBody (top 9)) (defScope (top 9)) .none kv9 dc9 pm9 an9 cd9 ct9), sl9⟩) (c9 : PySem.W.codeIn K cd9 "_law_alike" = true) (k9 : PySem.W.keepIn K (.ref f9) = true)
    {o10 kv10 dc10 pm10 cd10 ct10 : Value} {od10 an10 : Option Addr} {sl10 : Array (Option Value)} (a10 : PySem.W.nsIn K mainGlobals "_law_names" = some (some (.ref f10)))
    (l10 : K.lookup f10 = some ⟨o10, od10, .func (PySem.W.fnOf "_law_names" "_law_names" (defArgs (top 10)) (defBody (top 10)) (defScope (top 10)) .none kv10 dc10 pm10 an10 cd10 ct10), sl10⟩) (c10 : PySem.W.codeIn K cd10 "_law_names" = true) (k10 : PySem.W.keepIn K (.ref f10) = true)
    {o11 kv11 dc11 pm11 cd11 ct11 : Value} {od11 an11 : Option Addr} {sl11 : Array (Option Value)} (a11 : PySem.W.nsIn K mainGlobals "_law_struck" = some (some (.ref f11)))
    (l11 : K.lookup f11 = some ⟨o11, od11, .func (PySem.W.fnOf "_law_struck" "_law_struck" (defArgs (top 11)) (defBody (top 11)) (defScope (top 11)) .none kv11 dc11 pm11 an11 cd11 ct11), sl11⟩) (c11 : PySem.W.codeIn K cd11 "_law_struck" = true) (k11 : PySem.W.keepIn K (.ref f11) = true)
    {o12 kv12 dc12 pm12 cd12 ct12 : Value} {od12 an12 : Option Addr} {sl12 : Array (Option Value)} (a12 : PySem.W.nsIn K mainGlobals "_law_nested" = some (some (.ref f12)))
    (l12 : K.lookup f12 = some ⟨o12, od12, .func (PySem.W.fnOf "_law_nested" "_law_nested" (defArgs (top 12)) (defBody (top 12)) (defScope (top 12)) .none kv12 dc12 pm12 an12 cd12 ct12), sl12⟩) (c12 : PySem.W.codeIn K cd12 "_law_nested" = true) (k12 : PySem.W.keepIn K (.ref f12) = true)
    {o13 kv13 dc13 pm13 cd13 ct13 : Value} {od13 an13 : Option Addr} {sl13 : Array (Option Value)} (a13 : PySem.W.nsIn K mainGlobals "law" = some (some (.ref f13)))
    (l13 : K.lookup f13 = some ⟨o13, od13, .func (PySem.W.fnOf "law" "law" (defArgs (top 13)) (defBody (top 13)) (defScope (top 13)) .none kv13 dc13 pm13 an13 cd13 ct13), sl13⟩) (c13 : PySem.W.codeIn K cd13 "law" = true) (k13 : PySem.W.keepIn K (.ref f13) = true)
    (z0 : PySem.W.nsIn K mainGlobals "len" = some none)
    (z1 : PySem.W.nsIn K mainGlobals "list" = some none)
    (z2 : PySem.W.nsIn K mainGlobals "tuple" = some none)
    (z3 : PySem.W.nsIn K mainGlobals "int" = some none)
    (z4 : PySem.W.nsIn K mainGlobals "abs" = some none)
    (z5 : PySem.W.nsIn K mainGlobals "repr" = some none)
    (z6 : PySem.W.nsIn K mainGlobals "str" = some none)
    (z7 : PySem.W.nsIn K mainGlobals "min" = some none)
    (z8 : PySem.W.nsIn K mainGlobals "max" = some none)
    (z9 : PySem.W.nsIn K mainGlobals "sum" = some none)
    (z10 : PySem.W.nsIn K mainGlobals "sorted" = some none)
    (z11 : PySem.W.nsIn K mainGlobals "all" = some none)
    (z12 : PySem.W.nsIn K mainGlobals "any" = some none)
    (z13 : PySem.W.nsIn K mainGlobals "isinstance" = some none)
    (z14 : PySem.W.nsIn K mainGlobals "range" = some none)
    (z15 : PySem.W.nsIn K mainGlobals "bool" = some none)
    (z16 : PySem.W.nsIn K mainGlobals "enumerate" = some none)
    (z17 : PySem.W.nsIn K mainGlobals "zip" = some none)
    (z18 : PySem.W.nsIn K mainGlobals "dict" = some none)
    (z19 : PySem.W.nsIn K mainGlobals "set" = some none)
    : ∃ fd : FuncData, (∀ (s : Shared) (v : Value), BindsTo s fd ⟨[v], []⟩ [("_law_script", v)]) ∧ ∀ base : Heap, K.In base → base.Ns mainGlobals mg → FnG l.prog w K mg base 12 fa fd ["_law_script"] (spOf mg 1 (lawFn (K := K))) := by
  have e := isfa.symm.trans (PySem.W.mg_of X G a13)
  cases e
  have Z : ModOk mg fun _ => none := mod_ok X G fun x hx => by
    simp only [bNames, List.mem_cons, List.not_mem_nil, or_false] at hx
    rcases hx with e | e | e | e | e | e | e | e | e | e | e | e | e | e | e | e | e | e | e | e <;> (subst e; assumption)
  refine ⟨PySem.W.fnOf "law" "law" (defArgs (top 13)) (defBody (top 13)) (defScope (top 13)) .none kv13 dc13 pm13 an13 cd13 ct13, fun s v => .of_eq rfl, fun base _ _ => ?_⟩
  have R0 : RealT (W := WK K) l.prog w K mg base 0 T0 := RealT.nil
  have R1 : RealT (W := WK K) l.prog w K mg base 1 T1 := def_step R0 reducedFn_mono l1 c1 sc1 Z ok1 (fun xs g R Ex q => reduced_wp rfl q) (PySem.W.mg_of X G a1) k1 (.all fun us hl => match us, hl with | [_], _ => rfl)
  have R2 : RealT (W := WK K) l.prog w K mg base 2 T2 := def_step R1 joinedFn_mono l2 c2 sc2 Z ok2 (fun xs g R Ex q => joined_wp rfl rfl q) (PySem.W.mg_of X G a2) k2 (.all fun us hl => match us, hl with | [_, _], _ => rfl)
  have R3 : RealT (W := WK K) l.prog w K mg base 3 T3 := def_step R2 inverseFn_mono l3 c3 sc3 Z ok3 (fun xs g R Ex q => inverse_wp rfl q) (PySem.W.mg_of X G a3) k3 (.all fun us hl => match us, hl with | [_], _ => rfl)
  have R4 : RealT (W := WK K) l.prog w K mg base 4 T4 := R3.ext bagFn_mono (fun xs g R Ex q => by rw [q.1]; rfl) (bag_fnG l5 c5 sc5 Z tx5) (PySem.W.mg_of X G a5) k5 (.all fun us hl => match us, hl with | [_], _ => rfl)
  have R5 : RealT (W := WK K) l.prog w K mg base 5 T5 := R4.ext takeFn_mono (fun xs g R Ex ⟨_, _, _, _, q, _⟩ => by rw [q]; rfl) (take_fnG l6 c6 sc6 Z tx6) (PySem.W.mg_of X G a6) k6 (.all fun us hl => match us, hl with | [_, _], _ => rfl)
  have R6 : RealT (W := WK K) l.prog w K mg base 6 T6 := def_step R5 someFn_mono l7 c7 sc7 Z ok7 (fun xs g R Ex q => some_wp rfl rfl q) (PySem.W.mg_of X G a7) k7 (.all fun us hl => match us, hl with | [_, _], _ => rfl)
  have R7 : RealT (W := WK K) l.prog w K mg base 7 T7 := def_step R6 mixedFn_mono l8 c8 sc8 Z ok8 (fun xs g R Ex q => mixed_wp rfl rfl q) (PySem.W.mg_of X G a8) k8 (.all fun us hl => match us, hl with | [_, _], _ => rfl)
  have R8 : RealT (W := WK K) l.prog w K mg base 8 T8 := def_step R7 alikeFn_mono l9 c9 sc9 Z ok9 (fun xs g R Ex q => alike_wp rfl q) (PySem.W.mg_of X G a9) k9 (.all fun us hl => match us, hl with | [_, _], _ => rfl)
  have R9 : RealT (W := WK K) l.prog w K mg base 9 T9 := def_step R8 namesFn_mono l10 c10 sc10 Z ok10 (fun xs g R Ex q => names_wp rfl rfl rfl rfl q) (PySem.W.mg_of X G a10) k10 (.all fun us hl => match us, hl with | [_, _], _ => rfl)
  have R10 : RealT (W := WK K) l.prog w K mg base 10 T10 := def_step R9 struckFn_mono l11 c11 sc11 Z ok11 (fun xs g R Ex q => struck_wp rfl rfl q) (PySem.W.mg_of X G a11) k11 (.all fun us hl => match us, hl with | [_, _], _ => rfl)
  have R11 : RealT (W := WK K) l.prog w K mg base 11 T11 := def_step R10 nestedFn_mono l12 c12 sc12 Z ok12 (fun xs g R Ex q => nested_wp (fun f F e => (R10 f F e).1) rfl rfl rfl q) (PySem.W.mg_of X G a12) k12 (.all fun us hl => match us, hl with | [_, _], _ => rfl)
  exact def_fnG l13 c13 sc13 Z R11 ok13 fun xs g R Ex q => law9_wp rfl rfl rfl rfl rfl rfl rfl rfl rfl rfl q
end K9
open PySem PySem.W PyProof.Rows in
set_option maxRecDepth 100000 in
set_option maxHeartbeats 0 in
theorem PySem.Challenge.cw_sparehop_k09_words_reduced_holds : PySem.Challenge.rw_sparehop_k09_words_reduced.Holds := by
  w_on; o_law; k_head; (case hw => w_witness2)
  k_fill
  refine PD.walk_law (l := PySem.Challenge.rw_sparehop_k09_words_reduced) (x := "_law_script") (k := 12) rfl rfl ⟨rfl, by decide, by decide⟩ (fun w h Y => PySem.W.kIn_of Y) ?F
  case F =>
    intro w mg fa h X G isfa
    refine' K9.joins X G isfa ?a1 ?l1 ?c1 ?k1 ?a2 ?l2 ?c2 ?k2 ?a3 ?l3 ?c3 ?k3 ?a5 ?l5 ?c5 ?k5 ?a6 ?l6 ?c6 ?k6 ?a7 ?l7 ?c7 ?k7 ?a8 ?l8 ?c8 ?k8 ?a9 ?l9 ?c9 ?k9 ?a10 ?l10 ?c10 ?k10 ?a11 ?l11 ?c11 ?k11 ?a12 ?l12 ?c12 ?k12 ?a13 ?l13 ?c13 ?k13 ?z0 ?z1 ?z2 ?z3 ?z4 ?z5 ?z6 ?z7 ?z8 ?z9 ?z10 ?z11 ?z12 ?z13 ?z14 ?z15 ?z16 ?z17 ?z18 ?z19
    (case a1 => k_is)
    (case l1 => k_is)
    (case c1 => k_is)
    (case k1 => k_is)
    (case a2 => k_is)
    (case l2 => k_is)
    (case c2 => k_is)
    (case k2 => k_is)
    (case a3 => k_is)
    (case l3 => k_is)
    (case c3 => k_is)
    (case k3 => k_is)
    (case a5 => k_is)
    (case l5 => k_is)
    (case c5 => k_is)
    (case k5 => k_is)
    (case a6 => k_is)
    (case l6 => k_is)
    (case c6 => k_is)
    (case k6 => k_is)
    (case a7 => k_is)
    (case l7 => k_is)
    (case c7 => k_is)
    (case k7 => k_is)
    (case a8 => k_is)
    (case l8 => k_is)
    (case c8 => k_is)
    (case k8 => k_is)
    (case a9 => k_is)
    (case l9 => k_is)
    (case c9 => k_is)
    (case k9 => k_is)
    (case a10 => k_is)
    (case l10 => k_is)
    (case c10 => k_is)
    (case k10 => k_is)
    (case a11 => k_is)
    (case l11 => k_is)
    (case c11 => k_is)
    (case k11 => k_is)
    (case a12 => k_is)
    (case l12 => k_is)
    (case c12 => k_is)
    (case k12 => k_is)
    (case a13 => k_is)
    (case l13 => k_is)
    (case c13 => k_is)
    (case k13 => k_is)
    (case z0 => k_is)
    (case z1 => k_is)
    (case z2 => k_is)
    (case z3 => k_is)
    (case z4 => k_is)
    (case z5 => k_is)
    (case z6 => k_is)
    (case z7 => k_is)
    (case z8 => k_is)
    (case z9 => k_is)
    (case z10 => k_is)
    (case z11 => k_is)
    (case z12 => k_is)
    (case z13 => k_is)
    (case z14 => k_is)
    (case z15 => k_is)
    (case z16 => k_is)
    (case z17 => k_is)
    (case z18 => k_is)
    (case z19 => k_is)
